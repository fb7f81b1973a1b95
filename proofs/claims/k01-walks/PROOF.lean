import PyProof.Rows.All
import Wide.All
import OpenK.AllK
import Wide.FinOn
import HandS.ForMost
import HandS.ForExc
import HandS.IsInst
import HandS.TupAny
import HandS.TupLe
import HandS.Style
import HandS.ExcValue
import HandS.HeadHook1
import HandS.Lambda
import HandS.Defaults
import HandS.Wide
import HandS.Gcd
import KE.KRevSl
import HandS.ExcIs
import KE.LtData
import PyProof.ReprRoads
import PyProof.CallFns
import PyProof.ReprLen
import HandS.Rev
import HandS.MakeKwOnly
import HandS.Zip
import HandS.Iter
import KE.KUnpack
import HandS.HeadHook4
import HandS.HeadWalk
import HandS.Head0
import HandS.Head1
import HandS.Head2
import HandS.HeadEnd
import HandS.HeadHook2
import HandS.NestedK
import PySem.Challenge.RW_ropescounted_k01_walks_joined_and_backwa
set_option Elab.async false
set_option linter.all false
set_option autoImplicit false
set_option exponentiation.threshold 2000
set_option maxRecDepth 100000
set_option maxHeartbeats 4000000
namespace DS
open PySem PySem.Spec L2
inductive D where
  | non | bl (b : Bool) | int (i : Int) | str (x : Str)
  | tup (ds : List D) | lst (ds : List D) | dic (kvs : List (Key × D))
  | obj (c : String) (fs : List (Str × D))
  | exc (c : String)
  | glob (x : String) | ty (n : String) | st | gr | scr (ns : List Int)
/-- the draws' source -/
structure DrawSt where
  great : List Int
  cells : List Int
  left : Int
  turn : Int
  /-- the tables of code objects, and the names that they bear -/
  T : List (Addr × Str) := []
/-- a slot of a frame: nothing, a value, a list or a dict that this frame alone holds -/
inductive Slot where
  | un | val (d : D) | own (ds : List D) | ownd (kvs : List (Key × D)) | bor (ds : List D) | owno (n : String) (fs : List (Str × D))
def Slot.isOwn : Slot → Bool
  | .own _ => true
  | .ownd _ => true
  | .owno _ _ => true
  | _ => false
structure G where
  env : List Slot
  ds : DrawSt
inductive Res (α : Type) where
  | ok (a : α) (Γ : G) | exc (c : String) (S : DrawSt) | stuck
abbrev M (α : Type) := G → Res α
def Res.bind {α β : Type} (r : Res α) (k : α → G → Res β) : Res β := match r with
  | .ok a Γ => k a Γ
  | .exc c S => .exc c S
  | .stuck => .stuck
@[simp] theorem Res.bind_ok {α β : Type} (a : α) (Γ : G) (k : α → G → Res β) : (Res.ok a Γ).bind k = k a Γ := rfl
@[simp] theorem Res.bind_exc {α β : Type} (c : String) (S : DrawSt) (k : α → G → Res β) : (Res.exc c S : Res α).bind k = .exc c S := rfl
@[simp] theorem Res.bind_stuck {α β : Type} (k : α → G → Res β) : (Res.stuck : Res α).bind k = .stuck := rfl
theorem sql_mono {K : PySem.W.Frag} {F F' : Hp} {a : Addr} {xs : List V} (s : Same F F') (h : SqL K F a xs) : SqL K F' a xs := by
  rcases h with (h | ⟨o, h⟩) | h
  · exact .inl (.inl (s _ _ h))
  · exact .inl (.inr ⟨o, s _ _ h⟩)
  · exact .inr h
structure RC where
  K : PySem.W.Frag
  sa : Addr
  sg : Addr
def ce (K : PySem.W.Frag) (x : String) : Addr := He.ga K (PySem.Str.ofString x)
/-- an exception's object that is held as a value -/
def ExV (cls : Value) (a : Addr) : HO := .ext fun h => ∃ (oe : Obj) (vs : Array Value), h.get? a = some oe ∧ Zc cls none oe ∧ oe.data = .fields vs
mutual
inductive Rep (c : RC) (F : Hp) : V → D → Prop
  | non : Rep c F .non .non
  | bl (b : Bool) : Rep c F (.bl b) (.bl b)
  | int (i : Int) : Rep c F (.int i) (.int i)
  | str (x : Str) : Rep c F (.str x) (.str x)
  | tup {a : Addr} {xs : List V} {ds : List D} : F a = some (.tup xs) → Reps c F xs ds → Rep c F (.ref a) (.tup ds)
  | lst {a : Addr} {xs : List V} {ds : List D} : F a = some (.lst xs) → Reps c F xs ds → Rep c F (.ref a) (.lst ds)
  | scr {a : Addr} {ns : List Int} : SqL c.K F a (ns.map V.int) → Rep c F (.ref a) (.scr ns)
  | dic {a : Addr} {ks : List Key} {xs : List V} {ds : List D} : F a = some (.dK (ks.zip xs)) → ks.length = xs.length → Reps c F xs ds → Rep c F (.ref a) (.dic (ks.zip ds))
  | obj {a dx : Addr} {n : String} {ks : List Str} {xs : List V} {ds : List D} : F a = some (.ins (ce c.K n) dx (ks.zip xs)) → ks.length = xs.length → Reps c F xs ds → Rep c F (.ref a) (.obj n (ks.zip ds))
  | exc {a : Addr} {n : String} : F a = some (ExV (.ref (ce c.K n)) a) → Rep c F (.ref a) (.exc n)
  | glob (x : String) : Rep c F (.ref (ce c.K x)) (.glob x)
  | ty (n : String) : Rep c F (.ty n) (.ty n)
  | st : Rep c F (.ref c.sa) .st
  | gr : Rep c F (.ref c.sg) .gr
inductive Reps (c : RC) (F : Hp) : List V → List D → Prop
  | nil : Reps c F [] []
  | cons {v : V} {vs : List V} {d : D} {ds : List D} : Rep c F v d → Reps c F vs ds → Reps c F (v :: vs) (d :: ds)
end
mutual
theorem Rep.mono {c : RC} {F F' : Hp} (s : Same F F') : ∀ {v : V} {d : D}, Rep c F v d → Rep c F' v d
  | _, _, .non => .non
  | _, _, .bl b => .bl b
  | _, _, .int i => .int i
  | _, _, .str x => .str x
  | _, _, .tup h r => .tup (s _ _ h) (Reps.mono s r)
  | _, _, .lst h r => .lst (s _ _ h) (Reps.mono s r)
  | _, _, .scr h => .scr (sql_mono s h)
  | _, _, .dic h l r => .dic (s _ _ h) l (Reps.mono s r)
  | _, _, .obj h l r => .obj (s _ _ h) l (Reps.mono s r)
  | _, _, .exc h => .exc (s _ _ h)
  | _, _, .glob x => .glob x
  | _, _, .ty n => .ty n
  | _, _, .st => .st
  | _, _, .gr => .gr
theorem Reps.mono {c : RC} {F F' : Hp} (s : Same F F') : ∀ {vs : List V} {ds : List D}, Reps c F vs ds → Reps c F' vs ds
  | _, _, .nil => .nil
  | _, _, .cons h r => .cons (Rep.mono s h) (Reps.mono s r)
end
section
variable {c : RC} {F : Hp}
theorem Reps.length : ∀ {vs : List V} {ds : List D}, Reps c F vs ds → vs.length = ds.length
  | _, _, .nil => rfl
  | _, _, .cons _ r => by rw [List.length_cons, List.length_cons, Reps.length r]
theorem Reps.get : ∀ {vs : List V} {ds : List D} {i : Nat} {d : D}, Reps c F vs ds → ds[i]? = some d → ∃ v, vs[i]? = some v ∧ Rep c F v d
  | _, _, _, _, .nil, e => by simp at e
  | _, _, 0, _, .cons h _, e => by simp at e; subst e; exact ⟨_, rfl, h⟩
  | _, _, i + 1, d, .cons _ r, e => by
    obtain ⟨v, h1, h2⟩ := Reps.get (i := i) (d := d) r (by simpa using e)
    exact ⟨v, by simpa using h1, h2⟩
theorem Reps.append : ∀ {vs ws : List V} {ds es : List D}, Reps c F vs ds → Reps c F ws es → Reps c F (vs ++ ws) (ds ++ es)
  | _, _, _, _, .nil, s => s
  | _, _, _, _, .cons h r, s => .cons h (Reps.append r s)
theorem Reps.take : ∀ {vs : List V} {ds : List D} (n : Nat), Reps c F vs ds → Reps c F (vs.take n) (ds.take n)
  | _, _, 0, _ => .nil
  | _, _, _ + 1, .nil => .nil
  | _, _, n + 1, .cons h r => .cons h (Reps.take n r)
theorem Reps.drop : ∀ {vs : List V} {ds : List D} (n : Nat), Reps c F vs ds → Reps c F (vs.drop n) (ds.drop n)
  | _, _, 0, r => r
  | _, _, _ + 1, .nil => .nil
  | _, _, n + 1, .cons _ r => Reps.drop n r
theorem Reps.reverse : ∀ {vs : List V} {ds : List D}, Reps c F vs ds → Reps c F vs.reverse ds.reverse
  | _, _, .nil => .nil
  | _, _, .cons h r => by
    rw [List.reverse_cons, List.reverse_cons]
    exact Reps.append (Reps.reverse r) (.cons h .nil)
theorem Reps.set {v : V} {d : D} (q : Rep c F v d) : ∀ {vs : List V} {ds : List D} (i : Nat), Reps c F vs ds → Reps c F (vs.set i v) (ds.set i d)
  | _, _, _, .nil => .nil
  | _, _, 0, .cons _ r => .cons q r
  | _, _, i + 1, .cons h r => .cons h (Reps.set q i r)
theorem Reps.erase : ∀ {vs : List V} {ds : List D} (i : Nat), Reps c F vs ds → Reps c F (vs.eraseIdx i) (ds.eraseIdx i)
  | _, _, _, .nil => .nil
  | _, _, 0, .cons _ r => r
  | _, _, i + 1, .cons h r => .cons h (Reps.erase i r)
theorem Reps.one {v : V} {d : D} (h : Rep c F v d) : Reps c F [v] [d] := .cons h .nil
theorem Reps.ints : ∀ ns : List Int, Reps c F (ns.map V.int) (ns.map D.int)
  | [] => .nil
  | n :: r => .cons (.int n) (Reps.ints r)
theorem Reps.nil_iff {vs : List V} (h : Reps c F vs []) : vs = [] := by cases h; rfl
end
/-- the ghost: the heap and the frozen part at the entry -/
structure Gh where
  H0 : Hp
  F0 : Hp
  /-- the heap at the def's entry -/
  Hb : Hp
  /-- the instance that is being made -/
  me : Option Addr
/-- no table of code objects -/
def NT (o : HO) : Prop := ∀ ps, o ≠ .tbl ps
def PlO (o : HO) : Prop := NT o ∧ ∀ φ, o ≠ .ext φ
theorem plo_lst {xs : List V} : PlO (.lst xs) := ⟨fun _ z => HO.noConfusion z, fun _ z => HO.noConfusion z⟩
theorem plo_dK {xs : List (Key × V)} : PlO (.dK xs) := ⟨fun _ z => HO.noConfusion z, fun _ z => HO.noConfusion z⟩
theorem plo_ins {C dx : Addr} {xs : List (Str × V)} : PlO (.ins C dx xs) := ⟨fun _ z => HO.noConfusion z, fun _ z => HO.noConfusion z⟩
theorem nt_ext {φ : Heap → Prop} : NT (.ext φ) := fun _ z => HO.noConfusion z
def Gh.had (g : Gh) (b : Addr) (o : HO) : Prop := g.H0 b = some o ∨ g.Hb b = some o
def Gh.has (g : Gh) (b : Addr) (o : HO) : Prop := g.had b o ∧ NT o
/-- nothing stood there -/
def Gh.no (g : Gh) (b : Addr) : Prop := ∀ o, ¬ g.has b o
theorem tabs_upd {T : List (Addr × Str)} {H : Hp} {p : Addr} {o : HO} (t : LamX.Tabs T H) (h : ∀ u, H p = some u → PlO u) : LamX.Tabs T (upd H p o) := fun q hq => by
  obtain ⟨ps, h1, h2, h3⟩ := t q hq
  refine ⟨ps, ?_, h2, fun pos cv hc => ?_⟩
  · have : q.1 ≠ p := fun z => (h _ (z ▸ h1)).1 ps rfl
    rw [upd_ne this]; exact h1
  · obtain ⟨c, e1, e2⟩ := h3 pos cv hc
    have : c ≠ p := fun z => (h _ (z ▸ e2)).2 _ rfl
    exact ⟨c, e1, by rw [upd_ne this]; exact e2⟩
def SlotR (c : RC) (g : Gh) (F H : Hp) (o : Option V) : Slot → Prop
  | .un => True
  | .val d => ∃ v, o = some v ∧ Rep c F v d
  | .own ds => ∃ a vs, o = some (.ref a) ∧ H a = some (.lst vs) ∧ Reps c F vs ds ∧ F a = none ∧ g.no a ∧ a ≠ c.sa ∧ a ≠ c.sg
  | .ownd kvs => ∃ a ks vs ds, o = some (.ref a) ∧ H a = some (.dK (List.zip ks vs)) ∧ ks.length = vs.length ∧ Reps c F vs ds ∧ kvs = List.zip ks ds ∧ F a = none ∧ g.no a ∧ a ≠ c.sa ∧ a ≠ c.sg
  | .owno n fs => ∃ a dx ks vs ds, o = some (.ref a) ∧ g.me = some a ∧ H a = some (.ins (ce c.K n) dx (List.zip ks vs)) ∧ ks.length = vs.length ∧ Reps c F vs ds ∧ fs = List.zip ks ds ∧ F a = none ∧ g.no a ∧ a ≠ c.sa ∧ a ≠ c.sg
  | .bor ds => ∃ a vs, o = some (.ref a) ∧ g.Hb a = some (.lst vs) ∧ H a = some (.lst vs) ∧ Reps c F vs ds ∧ a ≠ c.sa ∧ a ≠ c.sg
def kGreat : Key := .inr (PySem.Str.ofString "great")
def kCells : Key := .inr (PySem.Str.ofString "cells")
def kLeft : Key := .inr (PySem.Str.ofString "left")
def kTurn : Key := .inr (PySem.Str.ofString "turn")
def stDict (g sc : Addr) (S : DrawSt) : HO := .dK [(kGreat, .ref g), (kCells, .ref sc), (kLeft, .int S.left), (kTurn, .int S.turn)]
def DstR (c : RC) (F H : Hp) (S : DrawSt) : Prop :=
  ∃ sc, H c.sa = some (stDict c.sg sc S) ∧ H c.sg = some (.lst (S.great.map V.int)) ∧ F sc = some (.lst (S.cells.map V.int)) ∧ F c.sa = none ∧ F c.sg = none ∧ c.sa ≠ c.sg
structure Rel (c : RC) (g : Gh) (F H : Hp) (σ : St) (Γ : G) : Prop where
  sub : Same F H
  subF : Same g.F0 F
  fra : ∀ b o, g.has b o → b ≠ c.sa → b ≠ c.sg → H b = some o
  fz : ∀ b o, g.H0 b = some o → NT o → g.F0 b = none → F b = none
  len : σ.length = Γ.env.length
  slot : ∀ (i : Nat) (s : Slot), Γ.env[i]? = some s → ∃ o, σ[i]? = some o ∧ SlotR c g F H o s
  dis : ∀ (i j : Nat) (a : Addr) (s t : Slot), i ≠ j → Γ.env[i]? = some s → Γ.env[j]? = some t → s.isOwn = true → t.isOwn = true → σ[i]? = some (some (.ref a)) → σ[j]? = some (some (.ref a)) → False
  dst : DstR c F H Γ.ds
  tab : LamX.Tabs Γ.ds.T H
  nt : ∀ b o, F b = some o → NT o
section
variable {c : RC} {g : Gh} {F F' H H' : Hp} {σ : St} {Γ : G}
theorem SlotR.mono {o : Option V} {s : Slot} (h : SlotR c g F H o s) (hf : ∀ b u, g.has b u → b ≠ c.sa → b ≠ c.sg → H' b = some u) (hF : Same F F') (hH : ∀ a, s.isOwn = true → o = some (.ref a) → H' a = H a ∧ F' a = none) : SlotR c g F' H' o s := by
  cases s with
  | un => trivial
  | val d => obtain ⟨v, e, r⟩ := h; exact ⟨v, e, r.mono hF⟩
  | own ds =>
    obtain ⟨a, vs, e, h1, r, h2, h3, h4, h5⟩ := h
    obtain ⟨q1, q2⟩ := hH a rfl e
    exact ⟨a, vs, e, by rw [q1]; exact h1, r.mono hF, q2, h3, h4, h5⟩
  | ownd kvs =>
    obtain ⟨a, ks, vs, ds, e, h1, l, r, ek, h2, h3, h4, h5⟩ := h
    obtain ⟨q1, q2⟩ := hH a rfl e
    exact ⟨a, ks, vs, ds, e, by rw [q1]; exact h1, l, r.mono hF, ek, q2, h3, h4, h5⟩
  | owno n fs =>
    obtain ⟨a, dx, ks, vs, ds, e, hm, h1, l, r, ek, h2, h3, h4, h5⟩ := h
    obtain ⟨q1, q2⟩ := hH a rfl e
    exact ⟨a, dx, ks, vs, ds, e, hm, by rw [q1]; exact h1, l, r.mono hF, ek, q2, h3, h4, h5⟩
  | bor ds =>
    obtain ⟨a, vs, e, h0, h1, r, h4, h5⟩ := h
    exact ⟨a, vs, e, h0, hf a _ ⟨.inr h0, plo_lst.1⟩ h4 h5, r.mono hF, h4, h5⟩
theorem SlotR.addr {o : Option V} {s : Slot} {a : Addr} (h : SlotR c g F H o s) (hs : s.isOwn = true) (e : o = some (.ref a)) : (∃ u, H a = some u ∧ PlO u) ∧ F a = none ∧ g.no a ∧ a ≠ c.sa ∧ a ≠ c.sg := by
  cases s with
  | un => cases hs
  | val d => cases hs
  | bor ds => cases hs
  | own ds =>
    obtain ⟨b, vs, e', h1, r, h2, h3, h4, h5⟩ := h
    rw [e] at e'; cases e'
    exact ⟨⟨_, h1, plo_lst⟩, h2, h3, h4, h5⟩
  | ownd kvs =>
    obtain ⟨b, ks, vs, ds, e', h1, l, r, ek, h2, h3, h4, h5⟩ := h
    rw [e] at e'; cases e'
    exact ⟨⟨_, h1, plo_dK⟩, h2, h3, h4, h5⟩
  | owno n fs =>
    obtain ⟨b, dx, ks, vs, ds, e', hm, h1, l, r, ek, h2, h3, h4, h5⟩ := h
    rw [e] at e'; cases e'
    exact ⟨⟨_, h1, plo_ins⟩, h2, h3, h4, h5⟩
/-- an address that the frame owns -/
def Owned (σ : St) (Γ : G) (a : Addr) : Prop := ∃ (i : Nat) (s : Slot), Γ.env[i]? = some s ∧ s.isOwn = true ∧ σ[i]? = some (some (.ref a))
theorem Rel.owned (R : Rel c g F H σ Γ) {a : Addr} (h : Owned σ Γ a) : (∃ u, H a = some u ∧ PlO u) ∧ F a = none ∧ g.no a ∧ a ≠ c.sa ∧ a ≠ c.sg := by
  obtain ⟨i, s, h1, h2, h3⟩ := h
  obtain ⟨o, e, q⟩ := R.slot i s h1
  rw [h3] at e
  have e' : some (V.ref a) = o := Option.some.inj e
  exact q.addr h2 e'.symm
theorem Rel.saSome (R : Rel c g F H σ Γ) : ∃ u, H c.sa = some u := let ⟨_, h, _⟩ := R.dst; ⟨_, h⟩
theorem Rel.sgSome (R : Rel c g F H σ Γ) : ∃ u, H c.sg = some u := let ⟨_, _, h, _⟩ := R.dst; ⟨_, h⟩
theorem Rel.fresh (R : Rel c g F H σ Γ) {p : Addr} (hp : H p = none) : p ≠ c.sa ∧ p ≠ c.sg ∧ g.no p ∧ F p = none ∧ ¬ Owned σ Γ p := by
  have h1 : p ≠ c.sa := fun e => by obtain ⟨u, q⟩ := R.saSome; rw [← e, hp] at q; cases q
  have h2 : p ≠ c.sg := fun e => by obtain ⟨u, q⟩ := R.sgSome; rw [← e, hp] at q; cases q
  refine ⟨h1, h2, ?_, ?_, fun o => ?_⟩
  · intro o q
    have := R.fra p o q h1 h2
    rw [hp] at this; cases this
  · cases q : F p with
    | none => rfl
    | some o => have := R.sub p o q; rw [hp] at this; cases this
  · obtain ⟨⟨u, q, _⟩, _⟩ := R.owned o
    rw [hp] at q; cases q
theorem DstR.keep {S : DrawSt} (h : DstR c F H S) (hF : Same F F') (h1 : H' c.sa = H c.sa) (h2 : H' c.sg = H c.sg) (h3 : F' c.sa = none) (h4 : F' c.sg = none) : DstR c F' H' S := by
  obtain ⟨sc, a1, a2, a3, a4, a5, a6⟩ := h
  exact ⟨sc, by rw [h1]; exact a1, by rw [h2]; exact a2, hF _ _ a3, h3, h4, a6⟩
theorem same_upd {F : Hp} {p : Addr} {o : HO} (h : F p = none) : Same F (upd F p o) := fun b u e => by
  rw [upd_ne (ne_of_none e h)]; exact e
/-- a new object is laid and frozen -/
theorem Rel.lay (R : Rel c g F H σ Γ) {p : Addr} {o : HO} (hp : H p = none) (ho : NT o := by exact fun _ z => HO.noConfusion z) : Rel c g (upd F p o) (upd H p o) σ Γ := by
  obtain ⟨n1, n2, n3, n4, n5⟩ := R.fresh hp
  have hf : ∀ b u, g.has b u → b ≠ c.sa → b ≠ c.sg → (upd H p o) b = some u := fun b u e h1 h2 => by
    have q := R.fra b u e h1 h2
    rw [upd_ne (ne_of_none q hp)]; exact q
  refine ⟨fun b u e => ?_, R.subF.trans (same_upd n4), fun b u e h1 h2 => ?_, fun b u e hn h1 => ?_, R.len, fun i s e => ?_, R.dis, ?_, tabs_upd R.tab (fun u q => by rw [hp] at q; cases q), fun b u e => ?_⟩
  · by_cases hb : b = p
    · subst hb; rw [upd_same] at e; rw [upd_same]; exact e
    · rw [upd_ne hb] at e; rw [upd_ne hb]; exact R.sub b u e
  · have q := R.fra b u e h1 h2
    rw [upd_ne (ne_of_none q hp)]; exact q
  · have hb : b ≠ p := fun z => by subst z; exact n3 _ ⟨.inl e, hn⟩
    rw [upd_ne hb]; exact R.fz b u e hn h1
  · obtain ⟨o', e1, q⟩ := R.slot i s e
    refine ⟨o', e1, q.mono hf (same_upd n4) fun a hs eo => ?_⟩
    have ow : Owned σ Γ a := ⟨i, s, e, hs, by rw [e1, eo]⟩
    have hap : a ≠ p := fun z => n5 (z ▸ ow)
    exact ⟨upd_ne hap, by rw [upd_ne hap]; exact (R.owned ow).2.1⟩
  · exact R.dst.keep (same_upd n4) (upd_ne n1.symm) (upd_ne n2.symm) (by rw [upd_ne n1.symm]; exact (let ⟨_, _, _, _, h, _⟩ := R.dst; h)) (by rw [upd_ne n2.symm]; exact (let ⟨_, _, _, _, _, h, _⟩ := R.dst; h))
  · by_cases hb : b = p
    · subst hb; rw [upd_same] at e; cases e; exact ho
    · rw [upd_ne hb] at e; exact R.nt b u e
/-- a new object is laid, not frozen -/
theorem Rel.lay0 (R : Rel c g F H σ Γ) {p : Addr} {o : HO} (hp : H p = none) : Rel c g F (upd H p o) σ Γ := by
  obtain ⟨n1, n2, n3, n4, n5⟩ := R.fresh hp
  have hf : ∀ b u, g.has b u → b ≠ c.sa → b ≠ c.sg → (upd H p o) b = some u := fun b u e h1 h2 => by
    have q := R.fra b u e h1 h2
    rw [upd_ne (ne_of_none q hp)]; exact q
  refine ⟨fun b u e => ?_, R.subF, fun b u e h1 h2 => ?_, R.fz, R.len, fun i s e => ?_, R.dis, ?_, tabs_upd R.tab (fun u q => by rw [hp] at q; cases q), R.nt⟩
  · have q := R.sub b u e
    rw [upd_ne (ne_of_none q hp)]; exact q
  · have q := R.fra b u e h1 h2
    rw [upd_ne (ne_of_none q hp)]; exact q
  · obtain ⟨o', e1, q⟩ := R.slot i s e
    refine ⟨o', e1, q.mono hf (Same.refl F) fun a hs eo => ?_⟩
    have ow : Owned σ Γ a := ⟨i, s, e, hs, by rw [e1, eo]⟩
    have hap : a ≠ p := fun z => n5 (z ▸ ow)
    exact ⟨upd_ne hap, (R.owned ow).2.1⟩
  · exact R.dst.keep (Same.refl F) (upd_ne n1.symm) (upd_ne n2.symm) (let ⟨_, _, _, _, h, _⟩ := R.dst; h) (let ⟨_, _, _, _, _, h, _⟩ := R.dst; h)
/-- an object that is not owned by a slot nor frozen is frozen -/
theorem Rel.frz1 (R : Rel c g F H σ Γ) {p : Addr} {o : HO} (hp : H p = some o) (h0 : g.no p) (hF : F p = none) (n1 : p ≠ c.sa) (n2 : p ≠ c.sg) (no : ¬ Owned σ Γ p) (ho : NT o := by exact fun _ z => HO.noConfusion z) : Rel c g (upd F p o) H σ Γ := by
  refine ⟨fun b u e => ?_, R.subF.trans (same_upd hF), R.fra, fun b u e hn h1 => ?_, R.len, fun i s e => ?_, R.dis, ?_, R.tab, fun b u e => ?_⟩
  · by_cases hb : b = p
    · subst hb; rw [upd_same] at e; cases e; exact hp
    · rw [upd_ne hb] at e; exact R.sub b u e
  · have hb : b ≠ p := fun z => by subst z; exact h0 _ ⟨.inl e, hn⟩
    rw [upd_ne hb]; exact R.fz b u e hn h1
  · obtain ⟨o', e1, q⟩ := R.slot i s e
    refine ⟨o', e1, q.mono R.fra (same_upd hF) fun a hs eo => ?_⟩
    have ow : Owned σ Γ a := ⟨i, s, e, hs, by rw [e1, eo]⟩
    have hap : a ≠ p := fun z => no (z ▸ ow)
    exact ⟨rfl, by rw [upd_ne hap]; exact (R.owned ow).2.1⟩
  · exact R.dst.keep (same_upd hF) rfl rfl (by rw [upd_ne n1.symm]; exact (let ⟨_, _, _, _, h, _⟩ := R.dst; h)) (by rw [upd_ne n2.symm]; exact (let ⟨_, _, _, _, _, h, _⟩ := R.dst; h))
  · by_cases hb : b = p
    · subst hb; rw [upd_same] at e; cases e; exact ho
    · rw [upd_ne hb] at e; exact R.nt b u e
/-- a slot gets a new value -/
theorem Rel.put (R : Rel c g F H σ Γ) {i : Nat} {v : V} {s : Slot} (h : SlotR c g F H (some v) s) (no : s.isOwn = true → ∀ a, v = .ref a → ¬ Owned σ Γ a) : Rel c g F H (σ.set i (some v)) { Γ with env := Γ.env.set i s } := by
  have at_ : ∀ (j : Nat) (t : Slot), (Γ.env.set i s)[j]? = some t → (j = i ∧ t = s ∧ (σ.set i (some v))[j]? = some (some v)) ∨ (j ≠ i ∧ Γ.env[j]? = some t ∧ (σ.set i (some v))[j]? = σ[j]?) := fun j t e => by
    rw [List.getElem?_set] at e
    split at e
    · rename_i hij
      subst hij
      split at e
      · rename_i hlt
        cases e
        exact .inl ⟨rfl, rfl, List.getElem?_set_self (by rw [R.len]; exact hlt)⟩
      · cases e
    · rename_i hij
      exact .inr ⟨fun z => hij z.symm, e, List.getElem?_set_ne hij⟩
  refine ⟨R.sub, R.subF, R.fra, R.fz, by simp [R.len], fun j t e => ?_, fun j l a t u hjl e1 e2 h1 h2 h3 h4 => ?_, R.dst, R.tab, R.nt⟩
  · rcases at_ j t e with ⟨rfl, rfl, q⟩ | ⟨_, e', q⟩
    · exact ⟨some v, q, h⟩
    · obtain ⟨o, eo, r⟩ := R.slot j t e'
      exact ⟨o, by show (σ.set i (some v))[j]? = _; rw [q]; exact eo, r⟩
  · rcases at_ j t e1 with ⟨rfl, rfl, q1⟩ | ⟨_, e1', q1⟩
    · rcases at_ l u e2 with ⟨rfl, rfl, q2⟩ | ⟨_, e2', q2⟩
      · exact hjl rfl
      · rw [q1] at h3
        rw [q2] at h4
        have ev : v = .ref a := Option.some.inj (Option.some.inj h3)
        exact no h1 a ev ⟨l, u, e2', h2, h4⟩
    · rcases at_ l u e2 with ⟨rfl, rfl, q2⟩ | ⟨_, e2', q2⟩
      · rw [q2] at h4
        rw [q1] at h3
        have ev : v = .ref a := Option.some.inj (Option.some.inj h4)
        exact no h2 a ev ⟨j, t, e1', h1, h3⟩
      · rw [q1] at h3
        rw [q2] at h4
        exact R.dis j l a t u hjl e1' e2' h1 h2 h3 h4
/-- what an owned slot holds is changed -/
theorem Rel.mut (R : Rel c g F H σ Γ) {i : Nat} {a : Addr} {s s' : Slot} {o : HO} (hi : Γ.env[i]? = some s) (hs : s.isOwn = true) (hs' : s'.isOwn = true) (ha : σ[i]? = some (some (.ref a))) (h : SlotR c g F (upd H a o) (some (.ref a)) s') :
    Rel c g F (upd H a o) σ { Γ with env := Γ.env.set i s' } := by
  have ow : Owned σ Γ a := ⟨i, s, hi, hs, ha⟩
  obtain ⟨⟨u, hu, hpl⟩, hF, h0, n1, n2⟩ := R.owned ow
  have hlt : i < Γ.env.length := (List.getElem?_eq_some_iff.mp hi).1
  refine ⟨fun b w e => ?_, R.subF, fun b w e h1 h2 => ?_, R.fz, by simp [R.len], fun j t e => ?_, fun j l b t w hjl e1 e2 h1 h2 h3 h4 => ?_, ?_, tabs_upd R.tab (fun v q => by rw [hu] at q; cases q; exact hpl), R.nt⟩
  · have hb : b ≠ a := fun z => by rw [z, hF] at e; cases e
    rw [upd_ne hb]; exact R.sub b w e
  · have hb : b ≠ a := fun z => by rw [z] at e; exact h0 _ e
    rw [upd_ne hb]; exact R.fra b w e h1 h2
  · have e' : (Γ.env.set i s')[j]? = some t := e
    by_cases hij : i = j
    · subst hij
      rw [List.getElem?_set_self hlt] at e'
      cases e'
      exact ⟨_, ha, h⟩
    · rw [List.getElem?_set_ne hij] at e'
      obtain ⟨o', eo, r⟩ := R.slot j t e'
      refine ⟨o', eo, r.mono (fun b w e h1 h2 => by
        have hb : b ≠ a := fun z => by rw [z] at e; exact h0 _ e
        rw [upd_ne hb]; exact R.fra b w e h1 h2) (Same.refl F) fun b hb e2 => ?_⟩
      have hba : b ≠ a := fun z => by
        subst z
        exact R.dis i j b s t hij hi e' hs hb ha (by rw [eo, e2])
      exact ⟨upd_ne hba, (R.owned ⟨j, t, e', hb, by rw [eo, e2]⟩).2.1⟩
  · have e1' : (Γ.env.set i s')[j]? = some t := e1
    have e2' : (Γ.env.set i s')[l]? = some w := e2
    have back : ∀ (k : Nat) (z : Slot), (Γ.env.set i s')[k]? = some z → z.isOwn = true → ∃ z', Γ.env[k]? = some z' ∧ z'.isOwn = true := fun k z ez hz => by
      by_cases hik : i = k
      · subst hik; exact ⟨s, hi, hs⟩
      · rw [List.getElem?_set_ne hik] at ez; exact ⟨z, ez, hz⟩
    obtain ⟨t', x1, x2⟩ := back j t e1' h1
    obtain ⟨w', y1, y2⟩ := back l w e2' h2
    exact R.dis j l b t' w' hjl x1 y1 x2 y2 h3 h4
  · exact R.dst.keep (Same.refl F) (upd_ne n1.symm) (upd_ne n2.symm) (let ⟨_, _, _, _, h, _⟩ := R.dst; h) (let ⟨_, _, _, _, _, h, _⟩ := R.dst; h)
end
end DS
set_option maxRecDepth 100000
set_option maxHeartbeats 4000000
namespace DS
open PySem PySem.Spec L2
def Post {α β : Type} (c : RC) (g : Gh) (σ : St) (E : XK) (rel : Hp → Hp → G → β → α → Prop) (Q : β → Hp → Prop) (F : Hp) : Res α → Prop
  | .ok a Γ => ∀ b H F', Rel c g F' H σ Γ → Same F F' → rel F' H Γ b a → Q b H
  | .exc n S => ∀ H F', Rel c g F' H [] ⟨[], S⟩ → Same F F' → E (.ref (ce c.K n)) none H
  | .stuck => False
section
variable {α β γ δ : Type} {c : RC} {g : Gh} {σ : St} {E : XK} {rel : Hp → Hp → G → β → α → Prop} {rel2 : Hp → Hp → G → γ → δ → Prop} {Q Q' : β → Hp → Prop} {F F' : Hp}
theorem Post.mono {r : Res α} (h : Post c g σ E rel Q F r) (s : Same F F') : Post c g σ E rel Q F' r := by
  cases r with
  | ok a Γ => exact fun b H F2 R s2 q => h b H F2 R (s.trans s2) q
  | exc n S => exact fun H F2 R s2 => h H F2 R (s.trans s2)
  | stuck => exact h
theorem Post.imp {r : Res α} (h : Post c g σ E rel Q F r) (k : ∀ b H, Q b H → Q' b H) : Post c g σ E rel Q' F r := by
  cases r with
  | ok a Γ => exact fun b H F2 R s2 q => k _ _ (h b H F2 R s2 q)
  | exc n S => exact h
  | stuck => exact h
theorem Post.split {r : Res δ} {k : δ → G → Res α} (h : Post c g σ E rel Q F (r.bind k)) :
    Post c g σ E rel2 (fun b H => ∃ F' Γ a, Rel c g F' H σ Γ ∧ Same F F' ∧ rel2 F' H Γ b a ∧ Post c g σ E rel Q F' (k a Γ)) F r := by
  cases r with
  | ok a Γ => exact fun b H F2 R s2 q => ⟨F2, Γ, a, R, s2, q, Post.mono h s2⟩
  | exc n S => exact h
  | stuck => exact h
end
/-- the readings -/
def relD (c : RC) (F H : Hp) (Γ : G) (v : V) (d : D) : Prop := Rep c F v d
def relA (c : RC) (F H : Hp) (Γ : G) (vs : List V) (ds : List D) : Prop := Reps c F vs ds
def relB (F H : Hp) (Γ : G) (b a : Bool) : Prop := b = a
/-- a new list, nobody's yet -/
def relL (c : RC) (g : Gh) (σ : St) (F H : Hp) (Γ : G) (v : V) (ds : List D) : Prop :=
  ∃ p vs, v = .ref p ∧ H p = some (.lst vs) ∧ Reps c F vs ds ∧ F p = none ∧ g.no p ∧ p ≠ c.sa ∧ p ≠ c.sg ∧ ¬ Owned σ Γ p
def relK (c : RC) (g : Gh) (σ : St) (F H : Hp) (Γ : G) (v : V) (kvs : List (Key × D)) : Prop :=
  ∃ p ks vs ds, v = .ref p ∧ H p = some (.dK (List.zip ks vs)) ∧ ks.length = vs.length ∧ Reps c F vs ds ∧ kvs = List.zip ks ds ∧ F p = none ∧ g.no p ∧ p ≠ c.sa ∧ p ≠ c.sg ∧ ¬ Owned σ Γ p
def tOf (K : PySem.W.Frag) (E : XK) (f : M D) : TE := fun σ H Q => ∃ c g F Γ, c.K = K ∧ Rel c g F H σ Γ ∧ Post c g σ E (relD c) Q F (f Γ)
def aOf (K : PySem.W.Frag) (E : XK) (f : M (List D)) : TA := fun σ H Q => ∃ c g F Γ, c.K = K ∧ Rel c g F H σ Γ ∧ Post c g σ E (relA c) Q F (f Γ)
def bOf (K : PySem.W.Frag) (E : XK) (f : M Bool) : TT := fun σ H Q => ∃ c g F Γ, c.K = K ∧ Rel c g F H σ Γ ∧ Post c g σ E relB Q F (f Γ)
def lOf (K : PySem.W.Frag) (E : XK) (f : M (List D)) : TE := fun σ H Q => ∃ c g F Γ, c.K = K ∧ Rel c g F H σ Γ ∧ Post c g σ E (relL c g σ) Q F (f Γ)
def kOf (K : PySem.W.Frag) (E : XK) (f : M (List (Key × D))) : TE := fun σ H Q => ∃ c g F Γ, c.K = K ∧ Rel c g F H σ Γ ∧ Post c g σ E (relK c g σ) Q F (f Γ)
theorem PE_imp {X : Cx} {e : Expr} {t t' : TE} (h : PE X e t) (k : ∀ σ H Q, t' σ H Q → t σ H Q) : PE X e t' := ⟨fun pins s σ H Q I q => h.run pins s σ H Q I (k _ _ _ q)⟩
theorem PT_imp {X : Cx} {e : Expr} {t t' : TT} (h : PT X e t) (k : ∀ σ H Q, t' σ H Q → t σ H Q) : PT X e t' := ⟨fun pins s σ H Q I q => h.run pins s σ H Q I (k _ _ _ q)⟩
theorem PW_imp {X : Cx} {e : Expr} {t t' : TT} (h : PW X e t) (k : ∀ σ H Q, t' σ H Q → t σ H Q) : PW X e t' := ⟨fun wh pins s σ H Q I q => h.run wh pins s σ H Q I (k _ _ _ q)⟩
theorem PA_imp {X : Cx} {es : List Expr} {t t' : TA} (h : PA X es t) (k : ∀ σ H Q, t' σ H Q → t σ H Q) : PA X es t' := ⟨fun p pins s σ H Q I q => h.run p pins s σ H Q I (k _ _ _ q)⟩
theorem PS_imp {X : Cx} {e : Stmt} {t t' : TS} (h : PS X e t) (k : ∀ D σ H, t' D σ H → t D σ H) : PS X e t' := ⟨fun pins s σ H D I q => h.run pins s σ H D I (k _ _ _ q)⟩
theorem PSs_imp {X : Cx} {e : List Stmt} {t t' : TS} (h : PSs X e t) (k : ∀ D σ H, t' D σ H → t D σ H) : PSs X e t' := ⟨fun pins s σ H D I q => h.run pins s σ H D I (k _ _ _ q)⟩
def retM {α : Type} (a : α) : M α := fun Γ => .ok a Γ
def liftO {α : Type} (o : Option α) : M α := fun Γ => match o with
  | some a => .ok a Γ
  | none => .stuck
/-- the i-th name, as a value from now on -/
def varM (i : Nat) : M D := fun Γ => match Γ.env[i]? with
  | some (.val d) => .ok d Γ
  | some (.own ds) => .ok (.lst ds) { Γ with env := Γ.env.set i (.val (.lst ds)) }
  | some (.ownd kvs) => .ok (.dic kvs) { Γ with env := Γ.env.set i (.val (.dic kvs)) }
  | some (.owno n fs) => .ok (.obj n fs) { Γ with env := Γ.env.set i (.val (.obj n fs)) }
  | _ => .stuck
/-- the i-th name, looked at -/
def peekL (i : Nat) (Γ : G) : Option (List D) := match Γ.env[i]? with
  | some (.own ds) => some ds
  | some (.val (.lst ds)) => some ds
  | some (.bor ds) => some ds
  | _ => none
section
variable {X : Cx} {E : XK} {e a b : Expr} {fa fb : M D} {pos : Pos}
/-- what a slot owns becomes a value -/
theorem Rel.freezeG {c : RC} {g : Gh} {F H : Hp} {σ : St} {Γ : G} (R : Rel c g F H σ Γ) {i : Nat} {s : Slot} {d : D} {p : Addr} {o : HO} (hi : Γ.env[i]? = some s) (hs : s.isOwn = true) (eo : σ[i]? = some (some (.ref p))) (h1 : H p = some o)
    (mk : ∀ F', Same F F' → F' p = some o → Rep c F' (.ref p) d) : ∃ F', Same F F' ∧ Rep c F' (.ref p) d ∧ Rel c g F' H σ { Γ with env := Γ.env.set i (.val d) } := by
  obtain ⟨⟨u0, hu0, hpl⟩, h2, h3, h4, h5⟩ := R.owned ⟨i, s, hi, hs, eo⟩
  rw [h1] at hu0
  cases hu0
  have sF : Same F (upd F p o) := same_upd h2
  have rp : Rep c (upd F p o) (.ref p) d := mk _ sF upd_same
  refine ⟨upd F p o, sF, rp, ?_⟩
  have no : ∀ (j : Nat) (t : Slot), (Γ.env.set i (.val d))[j]? = some t → t.isOwn = true → ∀ q, σ[j]? = some (some (.ref q)) → q ≠ p := fun j t e1 e2 q e3 z => by
    subst z
    by_cases hij : i = j
    · subst hij
      rw [List.getElem?_set] at e1
      rw [if_pos rfl] at e1
      split at e1
      · cases e1; cases e2
      · cases e1
    · rw [List.getElem?_set_ne hij] at e1
      exact R.dis i j q _ t hij hi e1 hs e2 eo e3
  refine ⟨fun b u e => ?_, R.subF.trans sF, R.fra, fun b u e hn h => ?_, by simp [R.len], fun j t e => ?_, fun j l q t u hjl e1 e2 k1 k2 k3 k4 => ?_, ?_, R.tab, fun b u e => ?_⟩
  · by_cases hb : b = p
    · subst hb; rw [upd_same] at e; cases e; exact h1
    · rw [upd_ne hb] at e; exact R.sub b u e
  · have hb : b ≠ p := fun z => by subst z; exact h3 _ ⟨.inl e, hn⟩
    rw [upd_ne hb]; exact R.fz b u e hn h
  · have e' : (Γ.env.set i (.val d))[j]? = some t := e
    by_cases hij : i = j
    · subst hij
      rw [List.getElem?_set] at e'
      rw [if_pos rfl] at e'
      split at e'
      · cases e'; exact ⟨_, eo, _, rfl, rp⟩
      · cases e'
    · rw [List.getElem?_set_ne hij] at e'
      obtain ⟨o', eo', q⟩ := R.slot j t e'
      refine ⟨o', eo', q.mono R.fra sF fun q' hq eq' => ⟨rfl, ?_⟩⟩
      have ne : q' ≠ p := no j t e hq q' (by rw [eo', eq'])
      rw [upd_ne ne]
      exact (R.owned ⟨j, t, e', hq, by rw [eo', eq']⟩).2.1
  · have back : ∀ (k : Nat) (z : Slot), (Γ.env.set i (.val d))[k]? = some z → z.isOwn = true → Γ.env[k]? = some z := fun k z ez hz => by
      by_cases hik : i = k
      · subst hik
        rw [List.getElem?_set] at ez
        rw [if_pos rfl] at ez
        split at ez
        · cases ez; cases hz
        · cases ez
      · rw [List.getElem?_set_ne hik] at ez; exact ez
    exact R.dis j l q t u hjl (back j t e1 k1) (back l u e2 k2) k1 k2 k3 k4
  · exact R.dst.keep sF rfl rfl (by rw [upd_ne (Ne.symm h4)]; exact (let ⟨_, _, _, _, h, _⟩ := R.dst; h)) (by rw [upd_ne (Ne.symm h5)]; exact (let ⟨_, _, _, _, _, h, _⟩ := R.dst; h))
  · by_cases hb : b = p
    · subst hb; rw [upd_same] at e; cases e; exact hpl.1
    · rw [upd_ne hb] at e; exact R.nt b u e
theorem se_var (i : Nat) {x : Str} (hN : X.N[i]? = some x := by rfl) (hv : Vis X.env.scope x := by first | exact Or.inl rfl | exact Or.inr (Or.inl rfl) | exact Or.inr (Or.inr rfl)) (hd : (x == ("__debug__" : Str)) = false := by decide)
    (hcd : (x == ("__classdict__" : Str)) = false := by decide) : PE X (.Name x pos) (tOf X.K E (varM i)) := by
  refine PE_imp (pe_var hN hv hd hcd) fun σ H Q h => ?_
  obtain ⟨c, g, F, Γ, hK, R, h⟩ := h
  unfold varM at h
  split at h
  · rename_i d hi
    obtain ⟨o, eo, v, ev, r⟩ := R.slot i _ hi
    subst ev
    exact ⟨v, eo, h v H F R (Same.refl F) r⟩
  · rename_i ds hi
    obtain ⟨o, eo, p, vs, e1, h1, r, _⟩ := R.slot i _ hi
    subst e1
    obtain ⟨F', s, r', R'⟩ := R.freezeG hi rfl eo h1 fun F' s e => .lst e (r.mono s)
    exact ⟨.ref p, eo, h _ H F' R' s r'⟩
  · rename_i kvs hi
    obtain ⟨o, eo, p, ks, vs, ds, e1, h1, l, r, ek, _⟩ := R.slot i _ hi
    subst e1
    subst ek
    obtain ⟨F', s, r', R'⟩ := R.freezeG hi rfl eo h1 fun F' s e => .dic e l (r.mono s)
    exact ⟨.ref p, eo, h _ H F' R' s r'⟩
  · rename_i n fs hi
    obtain ⟨o, eo, p, dx, ks, vs, ds, e1, hm, h1, l, r, ek, _⟩ := R.slot i _ hi
    subst e1
    subst ek
    obtain ⟨F', s, r', R'⟩ := R.freezeG hi rfl eo h1 fun F' s e => .obj e l (r.mono s)
    exact ⟨.ref p, eo, h _ H F' R' s r'⟩
  · exact h.elim
theorem se_tC {e : Expr} {v : V} {d : D} (h : PE X e (tC v)) (r : ∀ c F, c.K = X.K → Rep c F v d) : PE X e (tOf X.K E (retM d)) :=
  PE_imp h fun σ H Q ⟨c, g, F, Γ, hK, R, k⟩ => k v H F R (Same.refl F) (r c F hK)
theorem se_int {i : Int} {j : Nat} : PE X (.Constant (.int i) j pos) (tOf X.K E (retM (.int i))) := se_tC pe_int fun _ _ _ => .int i
theorem se_bl {b : Bool} {j : Nat} : PE X (.Constant (.bool b) j pos) (tOf X.K E (retM (.bl b))) := se_tC pe_bl fun _ _ _ => .bl b
theorem se_non {j : Nat} : PE X (.Constant .none j pos) (tOf X.K E (retM .non)) := se_tC pe_non fun _ _ _ => .non
theorem se_str {x : Str} {j : Nat} : PE X (.Constant (.str x) j pos) (tOf X.K E (retM (.str x))) := se_tC pe_str fun _ _ _ => .str x
theorem se_gint {x : Str} {i : Int} (hg : Gl X x) (hm : ∃ t, X.mg x = some (.int i t)) (hd : (x == ("__debug__" : Str)) = false := by decide) : PE X (.Name x pos) (tOf X.K E (retM (.int i))) := by
  obtain ⟨t, hm⟩ := hm
  exact se_tC (pe_glob (v := .int i) hg hm ⟨t, rfl⟩ hd) fun _ _ _ => .int i
/-- a def or a class of the module, as a value -/
theorem se_glob {x : String} (hg : Gl X (PySem.Str.ofString x)) (hm : X.mg (PySem.Str.ofString x) = some (.ref (ce X.K x))) (hd : ((PySem.Str.ofString x) == ("__debug__" : Str)) = false := by decide) : PE X (.Name (PySem.Str.ofString x) pos) (tOf X.K E (retM (.glob x))) :=
  se_tC (pe_glob (v := .ref (ce X.K x)) hg hm rfl hd) fun c F h => by rw [← h]; exact .glob x
theorem se_ty {x : Str} {n : String} (hg : Gl X x) (hm : X.mg x = none) (hv : bootBuiltins x = some (.type n)) (hn : x ≠ "__name__" := by decide) (hd : (x == ("__debug__" : Str)) = false := by decide) : PE X (.Name x pos) (tOf X.K E (retM (.ty n))) :=
  se_tC (pe_bltn (v := .ty n) hg hm hv rfl hn hd) fun _ _ _ => .ty n
/-- by values: what the operator makes of data; the answer may be laid anew -/
def rD (K : PySem.W.Frag) (op : D → D → Option D) : R2 := fun x y H Q => ∃ c g F σ Γ d1 d2 d, c.K = K ∧ Rel c g F H σ Γ ∧ Rep c F x d1 ∧ Rep c F y d2 ∧ op d1 d2 = some d ∧ ∀ v H' F', Rel c g F' H' σ Γ → Same F F' → Rep c F' v d → Q v H'
def binM (op : D → D → Option D) (fa fb : M D) : M D := fun Γ => (fa Γ).bind fun x Γ1 => (fb Γ1).bind fun y Γ2 => liftO (op x y) Γ2
theorem bin_to {op : D → D → Option D} {σ : St} {H : Hp} {Q : VK} (h : tOf X.K E (binM op fa fb) σ H Q) :
    tOf X.K E fa σ H fun x H1 => tOf X.K E fb σ H1 fun y H2 => rD X.K op x y H2 Q := by
  obtain ⟨c, g, F, Γ, hK, R, h⟩ := h
  refine ⟨c, g, F, Γ, hK, R, (Post.split (rel2 := relD c) h).imp fun x H1 h1 => ?_⟩
  obtain ⟨F1, Γ1, d1, R1, s1, r1, h1⟩ := h1
  refine ⟨c, g, F1, Γ1, hK, R1, (Post.split (rel2 := relD c) h1).imp fun y H2 h2 => ?_⟩
  obtain ⟨F2, Γ2, d2, R2, s2, r2, h2⟩ := h2
  unfold liftO at h2
  cases ho : op d1 d2 with
  | none => rw [ho] at h2; exact h2.elim
  | some d =>
    rw [ho] at h2
    exact ⟨c, g, F2, σ, Γ2, d1, d2, d, hK, R2, Rep.mono s2 r1, r2, ho, fun v H' F' R' s' r' => h2 v H' F' R' s' r'⟩
theorem se_op {op : Operator} {od : D → D → Option D} (ho : OpR X (binaryOp op) (rD X.K od)) (ha : PE X a (tOf X.K E fa)) (hb : PE X b (tOf X.K E fb)) : PE X (.BinOp a op b pos) (tOf X.K E (binM od fa fb)) :=
  PE_imp (pe_op ho ha hb) fun σ H Q h => bin_to h
theorem se_cmp {op : CmpOp} {od : D → D → Option D} (ho : OpR X (compareOp op) (rD X.K od)) (ha : PE X a (tOf X.K E fa)) (hb : PE X b (tOf X.K E fb)) (hm : behindInMarks op b = false) : PE X (.Compare a [op] [b] pos) (tOf X.K E (binM od fa fb)) :=
  PE_imp (pe_cmpR ho ha hb hm) fun σ H Q h => bin_to h
/-- a test by a value that is a bool -/
def boolM (f : M D) : M Bool := fun Γ => (f Γ).bind fun d Γ1 => match d with
  | .bl b => .ok b Γ1
  | _ => .stuck
theorem bool_to {f : M D} {σ : St} {H : Hp} {Q : Bool → Hp → Prop} (h : bOf X.K E (boolM f) σ H Q) : tOf X.K E f σ H fun x H' => ∃ k, x = .bl k ∧ Q k H' := by
  obtain ⟨c, g, F, Γ, hK, R, h⟩ := h
  refine ⟨c, g, F, Γ, hK, R, (Post.split (rel2 := relD c) h).imp fun x H1 h1 => ?_⟩
  obtain ⟨F1, Γ1, d1, R1, s1, r1, h1⟩ := h1
  cases r1 with
  | bl b => exact ⟨b, rfl, h1 b H1 F1 R1 (Same.refl F1) rfl⟩
  | _ => exact h1.elim
theorem te_cmp {op : CmpOp} {od : D → D → Option D} (ho : OpR X (compareOp op) (rD X.K od)) (ha : PE X a (tOf X.K E fa)) (hb : PE X b (tOf X.K E fb)) (hm : behindInMarks op b = false) : PT X (.Compare a [op] [b] pos) (bOf X.K E (boolM (binM od fa fb))) :=
  PT_imp (pt_cmpR ho ha hb hm) fun σ H Q h => bin_to (bool_to h)
/-- any expression whose value is a bool -/
theorem te_val {f : M D} (h : PE X e (tOf X.K E f)) (he : ∀ whole, isTrue e X.env whole = (do let v ← whole; standAt e.pos; holding [v] (truthy v)) := by intro _; rfl) : PT X e (bOf X.K E (boolM f)) :=
  PT_imp (pt_val h he) fun σ H Q h => bool_to h
def chainM (o1 o2 : D → D → Option D) (fa fb fc : M D) : M D := fun Γ => (fa Γ).bind fun x Γ1 => (fb Γ1).bind fun y Γ2 => match o1 x y with
  | some (.bl true) => (fc Γ2).bind fun z Γ3 => liftO (o2 y z) Γ3
  | some (.bl false) => .ok (.bl false) Γ2
  | _ => .stuck
theorem rD_use {op : D → D → Option D} {c : RC} {g : Gh} {F H : Hp} {σ : St} {Γ : G} {x y : V} {d1 d2 d : D} {Q : VK} (hK : c.K = X.K) (R : Rel c g F H σ Γ) (r1 : Rep c F x d1) (r2 : Rep c F y d2) (ho : op d1 d2 = some d)
    (q : ∀ v H' F', Rel c g F' H' σ Γ → Same F F' → Rep c F' v d → Q v H') : rD X.K op x y H Q := ⟨c, g, F, σ, Γ, d1, d2, d, hK, R, r1, r2, ho, q⟩
theorem chain_to {o1 o2 : D → D → Option D} {fc : M D} {σ : St} {H : Hp} {Q : VK} (h : tOf X.K E (chainM o1 o2 fa fb fc) σ H Q) : tChain (rD X.K o1) (rD X.K o2) (tOf X.K E fa) (tOf X.K E fb) (tOf X.K E fc) σ H Q := by
  obtain ⟨c, g, F, Γ, hK, R, h⟩ := h
  refine ⟨c, g, F, Γ, hK, R, (Post.split (rel2 := relD c) h).imp fun x H1 h1 => ?_⟩
  obtain ⟨F1, Γ1, d1, R1, s1, r1, h1⟩ := h1
  refine ⟨c, g, F1, Γ1, hK, R1, (Post.split (rel2 := relD c) h1).imp fun y H2 h2 => ?_⟩
  obtain ⟨F2, Γ2, d2, R2, s2, r2, h2⟩ := h2
  split at h2
  · rename_i ho
    refine rD_use hK R2 (Rep.mono s2 r1) r2 ho fun v H3 F3 R3 s3 r3 => ?_
    cases r3
    refine ⟨true, rfl, ?_⟩
    rw [if_pos rfl]
    refine ⟨c, g, F3, Γ2, hK, R3, (Post.split (rel2 := relD c) (Post.mono h2 s3)).imp fun z H4 h4 => ?_⟩
    obtain ⟨F4, Γ4, d4, R4, s4, r4, h4⟩ := h4
    unfold liftO at h4
    cases ho2 : o2 d2 d4 with
    | none => rw [ho2] at h4; exact h4.elim
    | some d =>
      rw [ho2] at h4
      exact rD_use hK R4 (Rep.mono (s3.trans s4) r2) r4 ho2 fun v' H' F' R' s' r' => h4 v' H' F' R' s' r'
  · rename_i ho
    refine rD_use hK R2 (Rep.mono s2 r1) r2 ho fun v H3 F3 R3 s3 r3 => ?_
    cases r3
    refine ⟨false, rfl, ?_⟩
    rw [if_neg Bool.false_ne_true]
    exact h2 _ H3 F3 R3 s3 (.bl false)
  · exact h2.elim
theorem se_chain {op op' : CmpOp} {o1 o2 : D → D → Option D} {b' : Expr} {fc : M D} (h1 : OpR X (compareOp op) (rD X.K o1)) (h2 : OpR X (compareOp op') (rD X.K o2)) (ha : PE X a (tOf X.K E fa)) (hb : PE X b (tOf X.K E fb)) (hc : PE X b' (tOf X.K E fc))
    (hm : lastMarks [op, op'] [b, b'] = false := by with_unfolding_all rfl) : PE X (.Compare a [op, op'] [b, b'] pos) (tOf X.K E (chainM o1 o2 fa fb fc)) :=
  PE_imp (pe_chain h1 h2 ha hb hc hm) fun σ H Q h => chain_to h
theorem te_chain {op op' : CmpOp} {o1 o2 : D → D → Option D} {b' : Expr} {fc : M D} (h1 : OpR X (compareOp op) (rD X.K o1)) (h2 : OpR X (compareOp op') (rD X.K o2)) (ha : PE X a (tOf X.K E fa)) (hb : PE X b (tOf X.K E fb)) (hc : PE X b' (tOf X.K E fc))
    (hm : lastMarks [op, op'] [b, b'] = false := by with_unfolding_all rfl) : PT X (.Compare a [op, op'] [b, b'] pos) (bOf X.K E (boolM (chainM o1 o2 fa fb fc))) :=
  PT_imp (pt_chain h1 h2 ha hb hc hm) fun σ H Q h => chain_to (bool_to h)
variable {ta tb : M Bool} {rest : List Expr}
def notM (f : M Bool) : M Bool := fun Γ => (f Γ).bind fun b Γ1 => .ok (!b) Γ1
def andM (f k : M Bool) : M Bool := fun Γ => (f Γ).bind fun b Γ1 => if b then k Γ1 else .ok false Γ1
def orM (f k : M Bool) : M Bool := fun Γ => (f Γ).bind fun b Γ1 => if b then .ok true Γ1 else k Γ1
theorem te_not (h : PT X a (bOf X.K E ta)) : PT X (.UnaryOp .Not a pos) (bOf X.K E (notM ta)) :=
  PT_imp (pt_not h) fun σ H Q ⟨c, g, F, Γ, hK, R, h⟩ => ⟨c, g, F, Γ, hK, R, (Post.split (rel2 := relB) h).imp fun x H1 ⟨F1, Γ1, d1, R1, s1, r1, h1⟩ => by
    have r1 : x = d1 := r1
    subst r1
    exact h1 _ H1 F1 R1 (Same.refl _) rfl⟩
theorem tw_and1 (h : PT X a (bOf X.K E ta)) : PW X (.BoolOp .And [a] pos) (bOf X.K E ta) := pw_and1 h
theorem tw_or1 (h : PT X a (bOf X.K E ta)) : PW X (.BoolOp .Or [a] pos) (bOf X.K E ta) := pw_or1 h
theorem tw_and (h : PT X a (bOf X.K E ta)) (k : PW X (.BoolOp .And (b :: rest) pos) (bOf X.K E tb)) : PW X (.BoolOp .And (a :: b :: rest) pos) (bOf X.K E (andM ta tb)) :=
  PW_imp (pw_and h k) fun σ H Q ⟨c, g, F, Γ, hK, R, h⟩ => ⟨c, g, F, Γ, hK, R, (Post.split (rel2 := relB) h).imp fun x H1 ⟨F1, Γ1, d1, R1, s1, r1, h1⟩ => by
    have r1 : x = d1 := r1
    subst r1
    cases x with
    | true => rw [if_pos rfl]; exact ⟨c, g, F1, Γ1, hK, R1, h1⟩
    | false => rw [if_neg Bool.false_ne_true]; exact h1 _ H1 F1 R1 (Same.refl _) rfl⟩
theorem tw_or (h : PT X a (bOf X.K E ta)) (k : PW X (.BoolOp .Or (b :: rest) pos) (bOf X.K E tb)) : PW X (.BoolOp .Or (a :: b :: rest) pos) (bOf X.K E (orM ta tb)) :=
  PW_imp (pw_or h k) fun σ H Q ⟨c, g, F, Γ, hK, R, h⟩ => ⟨c, g, F, Γ, hK, R, (Post.split (rel2 := relB) h).imp fun x H1 ⟨F1, Γ1, d1, R1, s1, r1, h1⟩ => by
    have r1 : x = d1 := r1
    subst r1
    cases x with
    | true => rw [if_pos rfl]; exact h1 _ H1 F1 R1 (Same.refl _) rfl
    | false => rw [if_neg Bool.false_ne_true]; exact ⟨c, g, F1, Γ1, hK, R1, h1⟩⟩
theorem te_bool (h : PW X a (bOf X.K E ta)) : PT X a (bOf X.K E ta) := h.pt
/-- as values -/
def andV (fa fb : M D) : M D := fun Γ => (fa Γ).bind fun d Γ1 => match d with
  | .bl true => fb Γ1
  | .bl false => .ok (.bl false) Γ1
  | _ => .stuck
def orV (fa fb : M D) : M D := fun Γ => (fa Γ).bind fun d Γ1 => match d with
  | .bl true => .ok (.bl true) Γ1
  | .bl false => fb Γ1
  | _ => .stuck
def notV (fa : M D) : M D := fun Γ => (fa Γ).bind fun d Γ1 => match d with
  | .bl b => .ok (.bl (!b)) Γ1
  | _ => .stuck
theorem se_one {op : BoolOp} (h : PE X a (tOf X.K E fa)) : PE X (.BoolOp op [a] pos) (tOf X.K E fa) := pe_one h
theorem se_and (ha : PE X a (tOf X.K E fa)) (hb : PE X (.BoolOp .And (b :: rest) pos) (tOf X.K E fb)) : PE X (.BoolOp .And (a :: b :: rest) pos) (tOf X.K E (andV fa fb)) :=
  PE_imp (pe_and ha hb) fun σ H Q ⟨c, g, F, Γ, hK, R, h⟩ => ⟨c, g, F, Γ, hK, R, (Post.split (rel2 := relD c) h).imp fun x H1 ⟨F1, Γ1, d1, R1, s1, r1, h1⟩ => by
    cases r1 with
    | bl b =>
      refine ⟨b, rfl, ?_⟩
      cases b with
      | true => rw [if_pos rfl]; exact ⟨c, g, F1, Γ1, hK, R1, h1⟩
      | false => rw [if_neg Bool.false_ne_true]; exact h1 _ H1 F1 R1 (Same.refl _) (.bl false)
    | _ => exact h1.elim⟩
theorem se_not (ha : PE X a (tOf X.K E fa)) : PE X (.UnaryOp .Not a pos) (tOf X.K E (notV fa)) :=
  PE_imp (pe_not ha) fun σ H Q ⟨c, g, F, Γ, hK, R, h⟩ => ⟨c, g, F, Γ, hK, R, (Post.split (rel2 := relD c) h).imp fun x H1 ⟨F1, Γ1, d1, R1, s1, r1, h1⟩ => by
    cases r1 with
    | bl b => exact ⟨b, rfl, h1 _ H1 F1 R1 (Same.refl _) (.bl _)⟩
    | _ => exact h1.elim⟩
def ifM {α : Type} (t : M Bool) (fa fb : M α) : M α := fun Γ => (t Γ).bind fun b Γ1 => if b then fa Γ1 else fb Γ1
theorem se_if {e' : Expr} (ht : PT X e' (bOf X.K E ta)) (ha : PE X a (tOf X.K E fa)) (hb : PE X b (tOf X.K E fb)) : PE X (.IfExp e' a b pos) (tOf X.K E (ifM ta fa fb)) :=
  PE_imp (pe_ifExp ht ha hb) fun σ H Q ⟨c, g, F, Γ, hK, R, h⟩ => ⟨c, g, F, Γ, hK, R, (Post.split (rel2 := relB) h).imp fun x H1 ⟨F1, Γ1, d1, R1, s1, r1, h1⟩ => by
    have r1 : x = d1 := r1
    subst r1
    cases x with
    | true => rw [if_pos rfl]; exact ⟨c, g, F1, Γ1, hK, R1, h1⟩
    | false => rw [if_neg Bool.false_ne_true]; exact ⟨c, g, F1, Γ1, hK, R1, h1⟩⟩
def nilA : M (List D) := retM []
def consA (f : M D) (r : M (List D)) : M (List D) := fun Γ => (f Γ).bind fun d Γ1 => (r Γ1).bind fun ds Γ2 => .ok (d :: ds) Γ2
theorem sa_nil : PA X [] (aOf X.K E nilA) := PA_imp pa_nil fun σ H Q ⟨c, g, F, Γ, hK, R, h⟩ => h [] H F R (Same.refl F) .nil
theorem sa_cons {es : List Expr} {fr : M (List D)} (ha : PE X e (tOf X.K E fa)) (hr : PA X es (aOf X.K E fr)) (hs : starEach (e :: es) X.env = (false, eval e X.env) :: starEach es X.env := by rfl) : PA X (e :: es) (aOf X.K E (consA fa fr)) :=
  PA_imp (pa_cons ha hr hs) fun σ H Q ⟨c, g, F, Γ, hK, R, h⟩ => ⟨c, g, F, Γ, hK, R, (Post.split (rel2 := relD c) h).imp fun x H1 ⟨F1, Γ1, d1, R1, s1, r1, h1⟩ =>
    ⟨c, g, F1, Γ1, hK, R1, (Post.split (rel2 := relA c) h1).imp fun xs H2 ⟨F2, Γ2, ds, R2, s2, r2, h2⟩ => h2 _ H2 F2 R2 (Same.refl _) (.cons (Rep.mono s2 r1) r2)⟩⟩
theorem line_ok : (16777216 : Nat) = sizeLine := sizeLine_eq.symm
def tupM (f : M (List D)) : M D := fun Γ => (f Γ).bind fun ds Γ1 => if ds.length ≤ 16777216 then .ok (.tup ds) Γ1 else .stuck
def lstM (f : M (List D)) : M (List D) := fun Γ => (f Γ).bind fun ds Γ1 => if ds.length ≤ 16777216 then .ok ds Γ1 else .stuck
/-- a new tuple -/
theorem Rel.newTup {c : RC} {g : Gh} {F H : Hp} {σ : St} {Γ : G} {vs : List V} {ds : List D} {p : Addr} (R : Rel c g F H σ Γ) (r : Reps c F vs ds) (hp : H p = none) : Rel c g (upd F p (.tup vs)) (upd H p (.tup vs)) σ Γ ∧ Same F (upd F p (.tup vs)) ∧ Rep c (upd F p (.tup vs)) (.ref p) (.tup ds) := by
  have s : Same F (upd F p (.tup vs)) := same_upd (R.fresh hp).2.2.2.1
  exact ⟨R.lay hp, s, .tup upd_same (r.mono s)⟩
theorem Rel.newLst {c : RC} {g : Gh} {F H : Hp} {σ : St} {Γ : G} {vs : List V} {ds : List D} {p : Addr} (R : Rel c g F H σ Γ) (r : Reps c F vs ds) (hp : H p = none) : Rel c g (upd F p (.lst vs)) (upd H p (.lst vs)) σ Γ ∧ Same F (upd F p (.lst vs)) ∧ Rep c (upd F p (.lst vs)) (.ref p) (.lst ds) := by
  have s : Same F (upd F p (.lst vs)) := same_upd (R.fresh hp).2.2.2.1
  exact ⟨R.lay hp, s, .lst upd_same (r.mono s)⟩
theorem Rel.newL {c : RC} {g : Gh} {F H : Hp} {σ : St} {Γ : G} {vs : List V} {ds : List D} {p : Addr} (R : Rel c g F H σ Γ) (r : Reps c F vs ds) (hp : H p = none) : Rel c g F (upd H p (.lst vs)) σ Γ ∧ relL c g σ F (upd H p (.lst vs)) Γ (.ref p) ds := by
  obtain ⟨n1, n2, n3, n4, n5⟩ := R.fresh hp
  exact ⟨R.lay0 hp, p, vs, rfl, upd_same, r, n4, n3, n1, n2, n5⟩
theorem se_tup {es : List Expr} {f : M (List D)} {x1 : Nat} (h : PA X es (aOf X.K E f)) : PE X (.Tuple es x1 pos) (tOf X.K E (tupM f)) :=
  PE_imp (pe_tup h) fun σ H Q ⟨c, g, F, Γ, hK, R, h⟩ => ⟨c, g, F, Γ, hK, R, (Post.split (rel2 := relA c) h).imp fun xs H1 ⟨F1, Γ1, ds, R1, s1, r1, h1⟩ => by
    have hl : xs.length = ds.length := Reps.length r1
    split at h1
    · rename_i hz
      refine ⟨by rw [hl, ← line_ok]; exact hz, fun p hp => ?_⟩
      obtain ⟨R2, s2, r2⟩ := R1.newTup r1 hp
      exact h1 _ _ _ R2 s2 r2
    · exact h1.elim⟩
/-- a new list, of nobody yet -/
theorem sl_lst {es : List Expr} {f : M (List D)} (h : PA X es (aOf X.K E f)) : PE X (.List es pos) (lOf X.K E (lstM f)) :=
  PE_imp (pe_lst h) fun σ H Q ⟨c, g, F, Γ, hK, R, h⟩ => ⟨c, g, F, Γ, hK, R, (Post.split (rel2 := relA c) h).imp fun xs H1 ⟨F1, Γ1, ds, R1, s1, r1, h1⟩ => by
    have hl : xs.length = ds.length := Reps.length r1
    split at h1
    · rename_i hz
      refine ⟨by rw [hl, ← line_ok]; exact hz, fun p hp => ?_⟩
      obtain ⟨R2, r2⟩ := R1.newL r1 hp
      exact h1 _ _ _ R2 (Same.refl _) r2
    · exact h1.elim⟩
def lstV (f : M (List D)) : M D := fun Γ => (f Γ).bind fun ds Γ1 => .ok (.lst ds) Γ1
/-- a new list becomes a value -/
theorem se_l {e : Expr} {f : M (List D)} (h : PE X e (lOf X.K E f)) : PE X e (tOf X.K E (lstV f)) :=
  PE_imp h fun σ H Q ⟨c, g, F, Γ, hK, R, h⟩ => ⟨c, g, F, Γ, hK, R, (Post.split (rel2 := relL c g σ) h).imp fun v H1 ⟨F1, Γ1, ds, R1, s1, r1, h1⟩ => by
    obtain ⟨p, vs, rfl, hp, r, n4, n3, n1, n2, n5⟩ := r1
    have s : Same F1 (upd F1 p (.lst vs)) := same_upd n4
    exact h1 _ H1 _ (R1.frz1 hp n3 n4 n1 n2 n5) s (.lst upd_same (r.mono s))⟩
end
end DS
set_option maxRecDepth 100000
set_option maxHeartbeats 4000000
namespace DS
open PySem PySem.Spec L2
inductive Fl where
  | nx | ret (d : D) | bk | ct
abbrev SM := G → Res Fl
def PostS (c : RC) (g : Gh) (E : XK) (Dd : Ends) (F : Hp) : Res Fl → Prop
  | .ok .nx Γ => ∀ σ H F', Rel c g F' H σ Γ → Same F F' → Dd.nx σ H
  | .ok (.ret d) Γ => ∀ σ v H F', Rel c g F' H σ Γ → Same F F' → Rep c F' v d → Dd.rt v H
  | .ok .bk Γ => ∀ σ H F', Rel c g F' H σ Γ → Same F F' → Dd.bk σ H
  | .ok .ct Γ => ∀ σ H F', Rel c g F' H σ Γ → Same F F' → Dd.ct σ H
  | .exc n S => ∀ H F', Rel c g F' H [] ⟨[], S⟩ → Same F F' → E (.ref (ce c.K n)) none H
  | .stuck => False
def sOf (K : PySem.W.Frag) (E : XK) (f : SM) : TS := fun Dd σ H => ∃ c g F Γ, c.K = K ∧ Rel c g F H σ Γ ∧ PostS c g E Dd F (f Γ)
section
variable {c : RC} {g : Gh} {E : XK} {Dd : Ends} {F F' : Hp}
theorem PostS.mono {r : Res Fl} (h : PostS c g E Dd F r) (s : Same F F') : PostS c g E Dd F' r := by
  cases r with
  | ok a Γ =>
    cases a with
    | nx => exact fun σ H F2 R s2 => h σ H F2 R (s.trans s2)
    | ret d => exact fun σ v H F2 R s2 q => h σ v H F2 R (s.trans s2) q
    | bk => exact fun σ H F2 R s2 => h σ H F2 R (s.trans s2)
    | ct => exact fun σ H F2 R s2 => h σ H F2 R (s.trans s2)
  | exc n S => exact fun H F2 R s2 => h H F2 R (s.trans s2)
  | stuck => exact h
/-- an expression first -/
theorem PostS.split {β δ : Type} {σ : St} {rel : Hp → Hp → G → β → δ → Prop} {r : Res δ} {k : δ → G → Res Fl} (h : PostS c g E Dd F (r.bind k)) :
    Post c g σ E rel (fun b H => ∃ F' Γ a, Rel c g F' H σ Γ ∧ Same F F' ∧ rel F' H Γ b a ∧ PostS c g E Dd F' (k a Γ)) F r := by
  cases r with
  | ok a Γ => exact fun b H F2 R s2 q => ⟨F2, Γ, a, R, s2, q, PostS.mono h s2⟩
  | exc n S => exact h
  | stuck => exact h
/-- the slots forgotten -/
theorem Rel.drop {H : Hp} {σ : St} {Γ : G} (R : Rel c g F H σ Γ) : Rel c g F H [] ⟨[], Γ.ds⟩ :=
  ⟨R.sub, R.subF, R.fra, R.fz, rfl, fun i s e => by simp at e, fun i j a s t _ e => by simp at e, R.dst, R.tab, R.nt⟩
end
def setV (i : Nat) (s : Slot) (Γ : G) : G := { Γ with env := Γ.env.set i s }
def skipS : SM := fun Γ => .ok .nx Γ
def seqS (f k : SM) : SM := fun Γ => (f Γ).bind fun fl Γ1 => match fl with
  | .nx => k Γ1
  | .ret d => .ok (.ret d) Γ1
  | .bk => .ok .bk Γ1
  | .ct => .ok .ct Γ1
section
variable {X : Cx} {E : XK} {e : Expr} {st : Stmt} {sts : List Stmt} {f k : SM} {fe : M D} {fl : M (List D)} {pos : Pos}
theorem ss_nil : PSs X [] (sOf X.K E skipS) := PSs_imp pss_nil fun Dd σ H ⟨c, g, F, Γ, hK, R, h⟩ => h σ H F R (Same.refl F)
theorem seq_to {Dd : Ends} {σ : St} {H : Hp} (h : sOf X.K E (seqS f k) Dd σ H) : sOf X.K E f { Dd with nx := sOf X.K E k Dd } σ H := by
  obtain ⟨c, g, F, Γ, hK, R, h⟩ := h
  refine ⟨c, g, F, Γ, hK, R, ?_⟩
  unfold seqS at h
  cases hr : f Γ with
  | ok a Γ1 =>
    rw [hr] at h
    cases a with
    | nx => exact fun σ1 H1 F1 R1 s1 => ⟨c, g, F1, Γ1, hK, R1, PostS.mono h s1⟩
    | ret d => exact h
    | bk => exact h
    | ct => exact h
  | exc n S => rw [hr] at h; exact h
  | stuck => rw [hr] at h; exact h
theorem ss_cons (h1 : PS X st (sOf X.K E f)) (h2 : PSs X sts (sOf X.K E k)) : PSs X (st :: sts) (sOf X.K E (seqS f k)) := PSs_imp (pss_cons h1 h2) fun Dd σ H h => seq_to h
theorem ss_one (h1 : PS X st (sOf X.K E f)) : PSs X [st] (sOf X.K E f) := pss_one h1
def brkS : SM := fun Γ => .ok .bk Γ
def cntS : SM := fun Γ => .ok .ct Γ
theorem ss_break : PS X (.Break pos) (sOf X.K E brkS) := PS_imp ps_break fun Dd σ H ⟨c, g, F, Γ, hK, R, h⟩ => h σ H F R (Same.refl F)
def exprS (fe : M D) : SM := fun Γ => (fe Γ).bind fun _ Γ1 => .ok .nx Γ1
theorem ss_expr (he : PE X e (tOf X.K E fe)) (hs : swapsWith e none pos.line X.env = pure false := by rfl) : PS X (.Expr e pos) (sOf X.K E (exprS fe)) :=
  PS_imp (ps_expr he hs) fun Dd σ H ⟨c, g, F, Γ, hK, R, h⟩ => ⟨c, g, F, Γ, hK, R, (PostS.split (rel := relD c) h).imp fun v H1 ⟨F1, Γ1, d, R1, s1, r1, h1⟩ => h1 σ H1 F1 R1 (Same.refl _)⟩
def retS (fe : M D) : SM := fun Γ => (fe Γ).bind fun d Γ1 => .ok (.ret d) Γ1
theorem ss_ret (he : PE X e (tOf X.K E fe)) : PS X (.Return (some e) pos) (sOf X.K E (retS fe)) :=
  PS_imp (ps_ret he) fun Dd σ H ⟨c, g, F, Γ, hK, R, h⟩ => ⟨c, g, F, Γ, hK, R, (PostS.split (rel := relD c) h).imp fun v H1 ⟨F1, Γ1, d, R1, s1, r1, h1⟩ => h1 σ v H1 F1 R1 (Same.refl _) r1⟩
def ifS (t : M Bool) (f k : SM) : SM := fun Γ => (t Γ).bind fun b Γ1 => if b then f Γ1 else k Γ1
theorem ss_if {e : Expr} {a b : List Stmt} {t : M Bool} (ht : PT X e (bOf X.K E t)) (ha : PSs X a (sOf X.K E f)) (hb : PSs X b (sOf X.K E k)) : PS X (.If e a b pos) (sOf X.K E (ifS t f k)) :=
  PS_imp (ps_if ht ha hb) fun Dd σ H ⟨c, g, F, Γ, hK, R, h⟩ => ⟨c, g, F, Γ, hK, R, (PostS.split (rel := relB) h).imp fun x H1 ⟨F1, Γ1, d, R1, s1, r1, h1⟩ => by
    have r1 : x = d := r1
    subst r1
    cases x with
    | true => rw [if_pos rfl]; exact ⟨c, g, F1, Γ1, hK, R1, h1⟩
    | false => rw [if_neg Bool.false_ne_true]; exact ⟨c, g, F1, Γ1, hK, R1, h1⟩⟩
def setS (i : Nat) (fe : M D) : SM := fun Γ => (fe Γ).bind fun d Γ1 => .ok .nx (setV i (.val d) Γ1)
theorem ss_set {i : Nat} {x : Str} {pos' : Pos} (hN : X.N.Nodup) (hi : X.N[i]? = some x) (hx : Loc X.env.scope x) (he : PE X e (tOf X.K E fe)) (hs : swapsWith e (some (.Name x pos')) pos.line X.env = pure false := by rfl)
    (hf : X.fn x = true ∨ X.env.scope.names.lookup x = some .local := by first | exact .inl rfl | exact .inr rfl | assumption) : PS X (.Assign [.Name x pos'] e pos) (sOf X.K E (setS i fe)) :=
  PS_imp (ps_set hN hi hx he hs hf) fun Dd σ H ⟨c, g, F, Γ, hK, R, h⟩ => ⟨c, g, F, Γ, hK, R, (PostS.split (rel := relD c) h).imp fun v H1 ⟨F1, Γ1, d, R1, s1, r1, h1⟩ =>
    h1 _ H1 F1 (R1.put (s := .val d) ⟨v, rfl, r1⟩ fun z => Bool.noConfusion z) (Same.refl _)⟩
def setLS (i : Nat) (fe : M (List D)) : SM := fun Γ => (fe Γ).bind fun ds Γ1 => .ok .nx (setV i (.own ds) Γ1)
theorem putL {c : RC} {g : Gh} {F H : Hp} {σ : St} {Γ : G} {v : V} {ds : List D} (i : Nat) (R : Rel c g F H σ Γ) (r : relL c g σ F H Γ v ds) : Rel c g F H (σ.set i (some v)) (setV i (.own ds) Γ) := by
  obtain ⟨p, vs, rfl, hp, r, n4, n3, n1, n2, n5⟩ := r
  refine R.put (s := .own ds) ⟨p, vs, rfl, hp, r, n4, n3, n1, n2⟩ fun _ a ea => ?_
  cases ea
  exact n5
theorem putK {c : RC} {g : Gh} {F H : Hp} {σ : St} {Γ : G} {v : V} {kvs : List (Key × D)} (i : Nat) (R : Rel c g F H σ Γ) (r : relK c g σ F H Γ v kvs) : Rel c g F H (σ.set i (some v)) (setV i (.ownd kvs) Γ) := by
  obtain ⟨p, ks, vs, ds, rfl, hp, l, r, ek, n4, n3, n1, n2, n5⟩ := r
  refine R.put (s := .ownd kvs) ⟨p, ks, vs, ds, rfl, hp, l, r, ek, n4, n3, n1, n2⟩ fun _ a ea => ?_
  cases ea
  exact n5
theorem ss_setL {i : Nat} {x : Str} {pos' : Pos} {fe : M (List D)} (hN : X.N.Nodup) (hi : X.N[i]? = some x) (hx : Loc X.env.scope x) (he : PE X e (lOf X.K E fe)) (hs : swapsWith e (some (.Name x pos')) pos.line X.env = pure false := by rfl)
    (hf : X.fn x = true ∨ X.env.scope.names.lookup x = some .local := by first | exact .inl rfl | exact .inr rfl | assumption) : PS X (.Assign [.Name x pos'] e pos) (sOf X.K E (setLS i fe)) :=
  PS_imp (ps_set hN hi hx he hs hf) fun Dd σ H ⟨c, g, F, Γ, hK, R, h⟩ => ⟨c, g, F, Γ, hK, R, (PostS.split (rel := relL c g σ) h).imp fun v H1 ⟨F1, Γ1, d, R1, s1, r1, h1⟩ => h1 _ H1 F1 (putL i R1 r1) (Same.refl _)⟩
abbrev TM := D → G → Option G
abbrev TMs := List D → G → Option G
def gOf (K : PySem.W.Frag) (tg : TM) : TG := fun v σ H Q => ∃ c g F Γ d, c.K = K ∧ Rel c g F H σ Γ ∧ Rep c F v d ∧ ∃ Γ', tg d Γ = some Γ' ∧ ∀ σ' H' F', Rel c g F' H' σ' Γ' → Same F F' → Q σ' H'
def gsOf (K : PySem.W.Frag) (tg : TMs) : TGs := fun vs σ H Q => ∃ c g F Γ ds, c.K = K ∧ Rel c g F H σ Γ ∧ Reps c F vs ds ∧ ∃ Γ', tg ds Γ = some Γ' ∧ ∀ σ' H' F', Rel c g F' H' σ' Γ' → Same F F' → Q σ' H'
def tgN (i : Nat) : TM := fun d Γ => some (setV i (.val d) Γ)
def tgNil : TMs := fun ds Γ => match ds with
  | [] => some Γ
  | _ => none
def tgCons (t : TM) (u : TMs) : TMs := fun ds Γ => match ds with
  | d :: r => (t d Γ).bind fun Γ1 => u r Γ1
  | [] => none
def tgT (n : Nat) (u : TMs) : TM := fun d Γ => match d with
  | .tup ds => if ds.length = n then u ds Γ else none
  | _ => none
theorem PG_imp {e : Expr} {t t' : TG} (h : PG X e t) (k : ∀ v σ H Q, t' v σ H Q → t v σ H Q) : PG X e t' := ⟨fun pins s σ H v u Q I r q => h.run pins s σ H v u Q I r (k _ _ _ _ q)⟩
theorem PGs_imp {e : List Expr} {t t' : TGs} (h : PGs X e t) (k : ∀ v σ H Q, t' v σ H Q → t v σ H Q) : PGs X e t' := ⟨fun pins s σ H v u Q I r q => h.run pins s σ H v u Q I r (k _ _ _ _ q)⟩
theorem sg_name {i : Nat} {x : Str} (hN : X.N.Nodup) (hi : X.N[i]? = some x) (hx : Loc X.env.scope x) (hf : X.fn x = true ∨ X.env.scope.names.lookup x = some .local := by first | exact .inl rfl | exact .inr rfl | assumption) : PG X (.Name x pos) (gOf X.K (tgN i)) :=
  PG_imp (pg_name hN hi hx hf) fun v σ H Q ⟨c, g, F, Γ, d, hK, R, r, Γ', e, q⟩ => by
    cases e
    exact q _ H F (R.put (s := .val d) ⟨v, rfl, r⟩ fun z => Bool.noConfusion z) (Same.refl _)
theorem sgs_nil : PGs X [] (gsOf X.K tgNil) := PGs_imp pgs_nil fun v σ H Q ⟨c, g, F, Γ, d, hK, R, r, Γ', e, q⟩ => by
  cases d with
  | nil => cases e; exact ⟨r.nil_iff, q σ H F R (Same.refl _)⟩
  | cons _ _ => cases e
theorem sgs_cons {e : Expr} {es : List Expr} {t : TM} {u : TMs} (h1 : PG X e (gOf X.K t)) (h2 : PGs X es (gsOf X.K u)) (hs : (assignEach (e :: es) X.env).map (·.2) = assign e X.env :: (assignEach es X.env).map (·.2) := by rfl) :
    PGs X (e :: es) (gsOf X.K (tgCons t u)) := PGs_imp (pgs_cons h1 h2 hs) fun vs σ H Q ⟨c, g, F, Γ, ds, hK, R, r, Γ', e, q⟩ => by
  cases r with
  | nil => cases e
  | @cons v vs d ds r1 r2 =>
    refine ⟨v, vs, rfl, c, g, F, Γ, d, hK, R, r1, ?_⟩
    have e' : (t d Γ).bind (fun Γ1 => u ds Γ1) = some Γ' := e
    cases hd : t d Γ with
    | none => rw [hd] at e'; cases e'
    | some Γ1 =>
      rw [hd] at e'
      exact ⟨Γ1, rfl, fun σ1 H1 F1 R1 s1 => ⟨c, g, F1, Γ1, ds, hK, R1, Reps.mono s1 r2, Γ', e', fun σ' H' F' R' s' => q σ' H' F' R' (s1.trans s')⟩⟩
theorem sg_tup {es : List Expr} {k : Nat} {u : TMs} {n : Nat} (hc : X.calm = true) (h : PGs X es (gsOf X.K u)) (hn : (assignEach es X.env).length = n := by rfl) (hst : (assignEach es X.env).findIdx? (·.1) = none := by rfl) : PG X (.Tuple es k pos) (gOf X.K (tgT n u)) :=
  PG_imp (pg_tup hc h hn hst) fun v σ H Q ⟨c, g, F, Γ, d, hK, R, r, Γ', e, q⟩ => by
    cases r with
    | @tup a xs ds ha hr =>
      have e' : (if ds.length = n then u ds Γ else none) = some Γ' := e
      split at e'
      · rename_i hl
        exact ⟨a, xs, rfl, .inl (.inl (R.sub _ _ ha)), by rw [Reps.length hr]; exact hl, c, g, F, Γ, ds, hK, R, hr, Γ', e', q⟩
      · cases e'
    | _ => cases e
def asgS (tg : TM) (fe : M D) : SM := fun Γ => (fe Γ).bind fun d Γ1 => match tg d Γ1 with
  | some Γ2 => .ok .nx Γ2
  | none => .stuck
theorem ss_asg {tgt : Expr} {tg : TM} (he : PE X e (tOf X.K E fe)) (hg : PG X tgt (gOf X.K tg)) (hs : swapsWithSole [tgt] e pos.line X.env = pure false := by rfl) (hw : swappedStores [tgt] e X.env = pure none := by rfl)
    (h1 : (assignEach [tgt] X.env).map (·.2) = [assign tgt X.env] := by rfl) : PS X (.Assign [tgt] e pos) (sOf X.K E (asgS tg fe)) :=
  PS_imp (ps_asg he hg hs hw h1) fun Dd σ H ⟨c, g, F, Γ, hK, R, h⟩ => ⟨c, g, F, Γ, hK, R, (PostS.split (rel := relD c) h).imp fun v H1 ⟨F1, Γ1, d, R1, s1, r1, h1⟩ => by
    cases hd : tg d Γ1 with
    | none => rw [hd] at h1; exact h1.elim
    | some Γ2 =>
      rw [hd] at h1
      exact ⟨c, g, F1, Γ1, d, hK, R1, r1, Γ2, hd, fun σ' H' F' R' s' => h1 σ' H' F' R' s'⟩⟩
def raiseS (n : String) : SM := fun Γ => .exc n Γ.ds
theorem ss_raise {x : String} {m : Str} {j : Nat} {p p2 p3 : Pos} {W : XK} (hc : X.calm = true) (tk : Takes X fun cls d _ H => E cls d H) (q : PySem.W.excIn X.K (ce X.K x) He.veBase "ValueError.__new__" = true ∧ PySem.W.keepIn X.K (.ref (ce X.K x)) = true ∧ PySem.W.subIn X.K (.ref (ce X.K x)) (.type "BaseException") = some true ∧ PySem.W.typeIn X.K (.ref (ce X.K x)) = some (.type "type"))
    (gC : X.mg (PySem.Str.ofString x) = some (.ref (ce X.K x))) (hg : Gl X (PySem.Str.ofString x)) (hdb : (PySem.Str.ofString x == ("__debug__" : Str)) = false := by decide) :
    PS X (.Raise (some (.Call (.Name (PySem.Str.ofString x) p) [.Constant (.str m) j p2] [] p3)) none pos) (sOf X.K E (raiseS x)) :=
  PS_imp (ps_raise hc tk (pmk_own PySem.F.excBase_ValueError q.1 gC q.2.1 (raises_own q.2.2.1 q.2.2.2) hg hdb)) fun Dd σ H ⟨c, g, F, Γ, hK, R, h⟩ => by
    have z := h H F R.drop (Same.refl F)
    rw [hK] at z
    exact z
def Yields (c : RC) (F : Hp) (J : It) (ds : List D) : Prop := ∀ F' H, Same F F' → Same F' H → J.stop ds.length H ∧ ∀ i d, ds[i]? = some d → J.go i H ∧ ∀ x H', J.yld i H x H' →
  (H' = H ∧ Rep c F' x d) ∨ ∃ T o, H T = none ∧ NT o ∧ H' = upd H T o ∧ Rep c (upd F' T o) x d
def relI (c : RC) (F H : Hp) (Γ : G) (J : It) (ds : List D) : Prop := Yields c F J ds
def iOf (K : PySem.W.Frag) (E : XK) (f : M (List D)) : TI := fun σ H R => ∃ c g F Γ, c.K = K ∧ Rel c g F H σ Γ ∧ Post c g σ E (relI c) R F (f Γ)
theorem PI_imp {tg it : Expr} {t t' : TI} (h : PI X tg it t) (k : ∀ σ H Q, t' σ H Q → t σ H Q) : PI X tg it t' := ⟨fun pins s σ H Q I q => h.run pins s σ H Q I (k _ _ _ q)⟩
def forS (tg : TM) (body : SM) : List D → SM
  | [], Γ => .ok .nx Γ
  | d :: r, Γ => match tg d Γ with
    | none => .stuck
    | some Γ1 => (body Γ1).bind fun fl Γ2 => match fl with
      | .nx => forS tg body r Γ2
      | .ct => forS tg body r Γ2
      | .bk => .ok .nx Γ2
      | .ret v => .ok (.ret v) Γ2
def forM' (fi : M (List D)) (tg : TM) (body : SM) : SM := fun Γ => (fi Γ).bind fun ds Γ1 => forS tg body ds Γ1
theorem ss_for {it tgt : Expr} {body : List Stmt} {fi : M (List D)} {tg : TM} (hp : PassesOwn (model X.prog X.w) X.A X.env X.xe) (hc : X.calm = true) (hi : PI X tgt it (iOf X.K E fi)) (hg : PG X tgt (gOf X.K tg)) (hb : PSs X body (sOf X.K E f))
    (hs : ∀ x, foldedSetIterable it X.env x = pure x := by intro _; rfl) : PS X (.For tgt it body [] pos) (sOf X.K E (forM' fi tg f)) :=
  PS_imp (ps_for hp hc hi hg hb hs) fun Dd σ H ⟨c, g, F, Γ, hK, R, h⟩ => ⟨c, g, F, Γ, hK, R, (PostS.split (rel := relI c) h).imp fun J H1 ⟨F1, Γ1, ds, R1, s1, r1, h1⟩ => by
    refine ⟨fun i m σ H => m = ds.length - i ∧ i ≤ ds.length ∧ ∃ F' Γ', Rel c g F' H σ Γ' ∧ Same F1 F' ∧ PostS c g E Dd F' (forS tg f (ds.drop i) Γ'), ⟨_, rfl, Nat.zero_le _, F1, Γ1, R1, Same.refl _, h1⟩, ?_⟩
    rintro i m σ2 H2 ⟨rfl, hi, F2, Γ2, R2, s2, h2⟩
    obtain ⟨y1, y2⟩ := r1 F2 H2 s2 R2.sub
    by_cases hlt : i < ds.length
    · obtain ⟨go, yl⟩ := y2 i ds[i] (by simp [hlt])
      refine .inr ⟨go, fun σ' H' => ∃ F' Γ', Rel c g F' H' σ' Γ' ∧ Same F1 F' ∧ PostS c g E Dd F' (forS tg f (ds.drop (i + 1)) Γ'), fun σ' H' ⟨F', Γ', a1, a2, a3⟩ => ⟨_, by omega, rfl, hlt, F', Γ', a1, a2, a3⟩, fun x H' hy => ?_⟩
      rw [List.drop_eq_getElem_cons hlt] at h2
      have h2' : PostS c g E Dd F2 (match tg ds[i] Γ2 with
        | none => Res.stuck
        | some Γ1 => (f Γ1).bind fun fl Γ2 => match fl with
          | .nx => forS tg f (ds.drop (i + 1)) Γ2
          | .ct => forS tg f (ds.drop (i + 1)) Γ2
          | .bk => .ok .nx Γ2
          | .ret v => .ok (.ret v) Γ2) := h2
      obtain ⟨F3, R3, s3, r3⟩ : ∃ F3, Rel c g F3 H' σ2 Γ2 ∧ Same F2 F3 ∧ Rep c F3 x ds[i] := by
        rcases yl x H' hy with ⟨rfl, r⟩ | ⟨T, o, hT, hno, rfl, r⟩
        · exact ⟨F2, R2, Same.refl _, r⟩
        · exact ⟨_, R2.lay hT hno, same_upd (R2.fresh hT).2.2.2.1, r⟩
      refine ⟨c, g, F3, Γ2, ds[i], hK, R3, r3, ?_⟩
      cases ht : tg ds[i] Γ2 with
      | none => rw [ht] at h2'; exact h2'.elim
      | some Γ3 =>
        rw [ht] at h2'
        refine ⟨Γ3, rfl, fun σ4 H4 F4 R4 s4 => ⟨c, g, F4, Γ3, hK, R4, ?_⟩⟩
        have s24 : Same F2 F4 := s3.trans s4
        have h4 := PostS.mono h2' s24
        dsimp only at h4
        cases hf : f Γ3 with
        | ok a Γ5 =>
          rw [hf] at h4
          cases a with
          | nx => exact fun σ5 H5 F5 R5 s5 => ⟨F5, Γ5, R5, s2.trans (s24.trans s5), PostS.mono h4 s5⟩
          | ct => exact fun σ5 H5 F5 R5 s5 => ⟨F5, Γ5, R5, s2.trans (s24.trans s5), PostS.mono h4 s5⟩
          | bk => exact h4
          | ret v => exact h4
        | exc n S => rw [hf] at h4; exact h4
        | stuck => rw [hf] at h4; exact h4
    · have e : i = ds.length := by omega
      subst e
      refine .inl ⟨y1, ?_⟩
      rw [List.drop_length] at h2
      exact h2 σ2 H2 F2 R2 (Same.refl _)⟩
def whileS (t : M Bool) (body : SM) : Nat → SM
  | 0, _ => .stuck
  | n + 1, Γ => (t Γ).bind fun b Γ1 => if b then (body Γ1).bind fun fl Γ2 => match fl with
      | .nx => whileS t body n Γ2
      | .ct => whileS t body n Γ2
      | .bk => .ok .nx Γ2
      | .ret v => .ok (.ret v) Γ2
    else .ok .nx Γ1
theorem ss_while (n : Nat) {e : Expr} {body : List Stmt} {t : M Bool} (hp : PassesOwn (model X.prog X.w) X.A X.env X.xe) (ht : PT X e (bOf X.K E t)) (hb : PSs X body (sOf X.K E f)) : PS X (.While e body [] pos) (sOf X.K E (whileS t f n)) :=
  PS_imp (ps_while hp ht hb) fun Dd σ H ⟨c, g, F, Γ, hK, R, h⟩ => by
    refine ⟨fun m σ H => ∃ F' Γ', Rel c g F' H σ Γ' ∧ PostS c g E Dd F' (whileS t f m Γ'), ⟨n, F, Γ, R, h⟩, ?_⟩
    rintro m σ1 H1 ⟨F1, Γ1, R1, h1⟩
    cases m with
    | zero => exact h1.elim
    | succ m =>
      refine ⟨c, g, F1, Γ1, hK, R1, (PostS.split (rel := relB) h1).imp fun b H2 ⟨F2, Γ2, b', R2, s2, r2, h2⟩ => ?_⟩
      have r2 : b = b' := r2
      subst r2
      cases b with
      | false => rw [if_neg Bool.false_ne_true]; exact h2 σ1 H2 F2 R2 (Same.refl _)
      | true =>
        rw [if_pos rfl]
        refine ⟨fun σ' H' => ∃ F' Γ', Rel c g F' H' σ' Γ' ∧ PostS c g E Dd F' (whileS t f m Γ'), fun σ' H' q => ⟨m, Nat.lt_succ_self _, q⟩, c, g, F2, Γ2, hK, R2, ?_⟩
        rw [if_pos rfl] at h2
        cases hf : f Γ2 with
        | ok a Γ5 =>
          rw [hf] at h2
          cases a with
          | nx => exact fun σ5 H5 F5 R5 s5 => ⟨F5, Γ5, R5, PostS.mono h2 s5⟩
          | ct => exact fun σ5 H5 F5 R5 s5 => ⟨F5, Γ5, R5, PostS.mono h2 s5⟩
          | bk => exact h2
          | ret v => exact h2
        | exc n S => rw [hf] at h2; exact h2
        | stuck => rw [hf] at h2; exact h2
end
inductive RD where
  | ok (d : D) (S : DrawSt) | exc (n : String) (S : DrawSt) | stuck
abbrev FM := List D → DrawSt → RD
def env0 (n : Nat) (args : List D) : List Slot := args.map .val ++ List.replicate (n - args.length) .un
def runD (n : Nat) (body : SM) : FM := fun args S => match body ⟨env0 n args, S⟩ with
  | .ok (.ret d) Γ => .ok d Γ.ds
  | .ok .nx Γ => .ok .non Γ.ds
  | .exc x S => .exc x S
  | _ => .stuck
def spD (K : PySem.W.Frag) (n : Nat) (Fm : FM) : Sp := fun vs H Q E => ∃ c F ds S, c.K = K ∧ ds.length = n ∧ Rel c ⟨H, F, H, none⟩ F H [] ⟨[], S⟩ ∧ Reps c F vs ds ∧ match Fm ds S with
  | .ok d S' => ∀ v H' F', Rel c ⟨H, F, H, none⟩ F' H' [] ⟨[], S'⟩ → Same F F' → Rep c F' v d → Q v H'
  | .exc x S' => ∀ H' F', Rel c ⟨H, F, H, none⟩ F' H' [] ⟨[], S'⟩ → Same F F' → E (.ref (ce c.K x)) none H'
  | .stuck => False
/-- a def of the module: called with n data it does as Fm tells -/
def DF (P : Program) (w : World) (K : PySem.W.Frag) (mg : Str → Option Value) (base : Heap) (x : String) (n k : Nat) (Fm : FM) : Prop :=
  ∃ (fd : FuncData) (ps : List Str), ps.length = n ∧ mg (PySem.Str.ofString x) = some (.ref (ce K x)) ∧ PySem.W.keepIn K (.ref (ce K x)) = true ∧ Binds K fd ps [] ∧ FnOk P w K mg base (L2.CX P w) k (ce K x) fd ps (spD K n Fm)
theorem Rel.start {c : RC} {F H : Hp} {S : DrawSt} {vs : List V} {ds : List D} (N : List Str) (R : Rel c ⟨H, F, H, none⟩ F H [] ⟨[], S⟩) (r : Reps c F vs ds) : Rel c ⟨H, F, H, none⟩ F H (L2.start N vs) ⟨env0 N.length ds, S⟩ := by
  have hl : vs.length = ds.length := Reps.length r
  refine ⟨R.sub, R.subF, R.fra, R.fz, by simp [L2.start, env0, hl], fun i s e => ?_, fun i j a s t _ e1 e2 h1 h2 _ _ => ?_, R.dst, R.tab, R.nt⟩
  · have e' : (ds.map Slot.val ++ List.replicate (N.length - ds.length) Slot.un)[i]? = some s := e
    unfold L2.start
    rw [List.getElem?_append] at e'
    rw [List.getElem?_append]
    simp only [List.length_map] at e' ⊢
    by_cases hi : i < ds.length
    · rw [if_pos hi, List.getElem?_map] at e'
      rw [if_pos (by omega), List.getElem?_map]
      cases hd : ds[i]? with
      | none => rw [hd] at e'; cases e'
      | some d =>
        rw [hd] at e'
        cases e'
        obtain ⟨v, hv, rv⟩ := Reps.get r hd
        rw [hv]
        exact ⟨_, rfl, v, rfl, rv⟩
    · rw [if_neg hi, List.getElem?_replicate] at e'
      split at e'
      · cases e'
        rename_i hlt
        rw [if_neg (by omega), List.getElem?_replicate, if_pos (by omega)]
        exact ⟨_, rfl, trivial⟩
      · cases e'
  · exfalso
    have e' : (ds.map Slot.val ++ List.replicate (N.length - ds.length) Slot.un)[i]? = some s := e1
    rw [List.getElem?_append] at e'
    split at e'
    · rw [List.getElem?_map] at e'
      cases hd : ds[i]? with
      | none => rw [hd] at e'; cases e'
      | some d => rw [hd] at e'; cases e'; cases h1
    · rw [List.getElem?_replicate] at e'
      split at e'
      · cases e'; cases h1
      · cases e'
section
variable {P : Program} {w : World} {K : PySem.W.Frag} {mg : Str → Option Value} {base : Heap}
/-- THE RULE for a def: its body's reading f, and what f gives -/
theorem df_ok {x : String} {qual : Str} {params : Arguments} {body : List Stmt} {scope : Scope} {fd : FuncData} {N ps : List Str} {n k : Nat} {Fm : FM} (F : FunD K (PySem.Str.ofString x) qual params body scope [] [] (ce K x) fd) (S : FnScope N ps scope) (hn : ps.length = n)
    (gm : mg (PySem.Str.ofString x) = some (.ref (ce K x)))
    (hb : ∀ (kV doc pm : Value) (an : Option Addr) (cdv ct : Value) (us : List Value), us.length = ps.length → bindArgs (PySem.W.fnOf (PySem.Str.ofString x) qual params body scope .none kV doc pm an cdv ct) ⟨us, []⟩ = pure (ps.zip us)) (f : SM)
    (hbody : ∀ (cdv : Value) (A : Around) (outer : List Env) (s : Shared) (H : Hp) (E : XK), Room k (A.deeper (PyProof.Rows.envOfC qual scope s.heap.objs.size (ce K x) cdv)) →
      PSs (cxOf (L2.CX P w) P w K mg base N qual scope (ce K x) cdv A outer s H E) body (sOf K E f))
    (hf : ∀ ds S, ds.length = n → Fm ds S ≠ .stuck → runD N.length f ds S = Fm ds S) : DF P w K mg base x n (k + 1) Fm := by
  refine ⟨fd, ps, hn, gm, F.kp, F.bindsN hb, F.ok S (fun vs H Q E h => ?_) fun cdv A outer s H vs Q E hr h => ⟨_, hbody cdv A outer s H E hr, ?_⟩⟩
  · obtain ⟨c, F, ds, S, _, hl, _, r, _⟩ := h
    rw [Reps.length r, hl, hn]
  · obtain ⟨c, F, ds, S, hK, hl, R, r, h⟩ := h
    refine ⟨c, ⟨H, F, H, none⟩, F, _, hK, R.start N r, ?_⟩
    cases hm : Fm ds S with
    | stuck => rw [hm] at h; exact h.elim
    | ok d S' =>
      rw [hm] at h
      have e := hf ds S hl (by rw [hm]; exact fun z => by cases z)
      rw [hm] at e
      unfold runD at e
      cases hr : f ⟨env0 N.length ds, S⟩ with
      | ok a Γ =>
        rw [hr] at e
        cases a with
        | nx =>
          cases e
          exact fun σ H' F' R' s' => h .non H' F' R'.drop s' .non
        | ret d' =>
          cases e
          exact fun σ v H' F' R' s' r' => h v H' F' R'.drop s' r'
        | bk => cases e
        | ct => cases e
      | exc n S => rw [hr] at e; cases e
      | stuck => rw [hr] at e; cases e
    | exc y S' =>
      rw [hm] at h
      have e := hf ds S hl (by rw [hm]; exact fun z => by cases z)
      rw [hm] at e
      unfold runD at e
      cases hr : f ⟨env0 N.length ds, S⟩ with
      | ok a Γ =>
        rw [hr] at e
        cases a <;> cases e
      | exc n S => rw [hr] at e; cases e; exact fun H' F' R' s' => h H' F' R' s'
      | stuck => rw [hr] at e; cases e
theorem DF.mono {x : String} {n j k : Nat} {Fm : FM} (h : DF P w K mg base x n j Fm) (hk : j ≤ k) : DF P w K mg base x n k Fm := by
  obtain ⟨fd, ps, hn, gm, kp, hb, ok⟩ := h
  exact ⟨fd, ps, hn, gm, kp, hb, ok.mono hk⟩
end
/-- behind a call -/
theorem Rel.back {c : RC} {g : Gh} {F F' H H' : Hp} {σ : St} {Γ : G} {S' : DrawSt} (R : Rel c g F H σ Γ) (R' : Rel c ⟨H, F, H, none⟩ F' H' [] ⟨[], S'⟩) (s : Same F F') : Rel c g F' H' σ { Γ with ds := S' } := by
  have hH : ∀ b o, H b = some o → NT o → b ≠ c.sa → b ≠ c.sg → H' b = some o := fun b o e hn => R'.fra b o ⟨.inl e, hn⟩
  have hF : ∀ b o, H b = some o → NT o → F b = none → F' b = none := R'.fz
  obtain ⟨sc', d1, d2, d3, d4, d5, d6⟩ := id R'.dst
  refine ⟨R'.sub, R.subF.trans s, fun b o e h1 h2 => hH b o (R.fra b o e h1 h2) e.2 h1 h2, fun b o e hn h0 => ?_, R.len, fun i t e => ?_, R.dis, R'.dst, R'.tab, R'.nt⟩
  · by_cases h1 : b = c.sa
    · rw [h1]; exact d4
    · by_cases h2 : b = c.sg
      · rw [h2]; exact d5
      · exact hF b o (R.fra b o ⟨.inl e, hn⟩ h1 h2) hn (R.fz b o e hn h0)
  · obtain ⟨o, eo, q⟩ := R.slot i t e
    refine ⟨o, eo, q.mono (fun b o e h1 h2 => hH b o (R.fra b o e h1 h2) e.2 h1 h2) s fun a ht ea => ?_⟩
    obtain ⟨⟨u, hu, hpl⟩, hFa, _, n1, n2⟩ := R.owned ⟨i, t, e, ht, by rw [eo, ea]⟩
    exact ⟨by rw [hu]; exact hH a u hu hpl.1 n1 n2, hF a u hu hpl.1 hFa⟩
theorem Rel.call {c : RC} {g : Gh} {F H : Hp} {σ : St} {Γ : G} (R : Rel c g F H σ Γ) : Rel c ⟨H, F, H, none⟩ F H [] ⟨[], Γ.ds⟩ :=
  ⟨R.sub, Same.refl F, fun b o e _ _ => e.1.elim id id, fun b o _ _ e => e, rfl, fun i s e => by simp at e, fun i j a s t _ e => by simp at e, R.dst, R.tab, R.nt⟩
/-- an exception that leaves a call leaves its caller -/
theorem Rel.backX {c : RC} {g : Gh} {F F' H H' : Hp} {σ : St} {Γ : G} {S' : DrawSt} (R : Rel c g F H σ Γ) (R' : Rel c ⟨H, F, H, none⟩ F' H' [] ⟨[], S'⟩) (s : Same F F') : Rel c g F' H' [] ⟨[], S'⟩ := (R.back R' s).drop
def callM (n : Nat) (Fm : FM) (fa : M (List D)) : M D := fun Γ => (fa Γ).bind fun ds Γ1 => if ds.length = n then match Fm ds Γ1.ds with
  | .ok d S => .ok d { Γ1 with ds := S }
  | .exc x S => .exc x S
  | .stuck => .stuck
  else .stuck
section
variable {X : Cx} {E : XK} {pos : Pos}
theorem call_use {c : RC} {g : Gh} {F H : Hp} {σ : St} {Γ : G} {n : Nat} {Fm : FM} {vs : List V} {ds : List D} {Q : VK} (hK : c.K = X.K) (R : Rel c g F H σ Γ) (r : Reps c F vs ds)
    (h : Post c g σ E (relD c) Q F (if ds.length = n then match Fm ds Γ.ds with
      | .ok d S => .ok d { Γ with ds := S }
      | .exc x S => .exc x S
      | .stuck => .stuck
      else Res.stuck)) : spD X.K n Fm vs H Q E := by
  split at h
  · rename_i hl
    refine ⟨c, F, ds, Γ.ds, hK, hl, R.call, r, ?_⟩
    cases hm : Fm ds Γ.ds with
    | ok d S =>
      rw [hm] at h
      exact fun v H' F' R' s' r' => h v H' F' (R.back R' s') s' r'
    | exc x S =>
      rw [hm] at h
      exact fun H' F' R' s' => h H' F' (R.backX R' s') s'
    | stuck => rw [hm] at h; exact h.elim
  · exact h.elim
theorem se_call {x : String} {e : Expr} {es : List Expr} {n j k : Nat} {Fm : FM} {fa : M (List D)} {p : Pos} (G : DF X.prog X.w X.K X.mg X.base x n k Fm) (hr : Room j X.A) (hk : k ≤ j) (hx : Passes (L2.CX X.prog X.w) X E) (hg : Gl X (PySem.Str.ofString x)) (ha : PA X (e :: es) (aOf X.K E fa))
    (hdb : (PySem.Str.ofString x == ("__debug__" : Str)) = false := by decide) (he : starEach (e :: es) X.env = (false, eval e X.env) :: starEach es X.env := by rfl) (hpl : (backTo pos (starEach es X.env)).any (·.1) = false := by rfl) :
    PE X (.Call (.Name (PySem.Str.ofString x) p) (e :: es) [] pos) (tOf X.K E (callM n Fm fa)) := by
  obtain ⟨fd, ps, hn, gm, kp, hb, ok⟩ := G
  refine PE_imp (pe_call (dvs := []) ok (hr.mono hk) hg gm kp hb .nil hx ha hdb he hpl) fun σ H Q ⟨c, g, F, Γ, hK, R, h⟩ => ⟨c, g, F, Γ, hK, R, (Post.split (rel2 := relA c) h).imp fun vs H1 ⟨F1, Γ1, ds, R1, s1, r1, h1⟩ => ?_⟩
  rw [List.append_nil]
  exact call_use hK R1 r1 h1
end
end DS
set_option maxRecDepth 100000
set_option maxHeartbeats 4000000
namespace DS
open PySem PySem.Spec L2
section
variable {X : Cx}
/-- a value as it stands -/
theorem rd_same {c : RC} {g : Gh} {F H : Hp} {σ : St} {Γ : G} {Q : VK} {v : V} {d : D} (R : Rel c g F H σ Γ) (r : Rep c F v d) (q : ∀ v H' F', Rel c g F' H' σ Γ → Same F F' → Rep c F' v d → Q v H') : Q v H := q v H F R (Same.refl F) r
theorem rd_tup {c : RC} {g : Gh} {F H : Hp} {σ : St} {Γ : G} {Q : VK} {vs : List V} {ds : List D} (R : Rel c g F H σ Γ) (r : Reps c F vs ds) (q : ∀ v H' F', Rel c g F' H' σ Γ → Same F F' → Rep c F' v (.tup ds) → Q v H') :
    ∀ p, H p = none → Q (.ref p) (upd H p (.tup vs)) := fun p hp => by
  obtain ⟨R2, s2, r2⟩ := R.newTup r hp
  exact q _ _ _ R2 s2 r2
theorem rd_lst {c : RC} {g : Gh} {F H : Hp} {σ : St} {Γ : G} {Q : VK} {vs : List V} {ds : List D} (R : Rel c g F H σ Γ) (r : Reps c F vs ds) (q : ∀ v H' F', Rel c g F' H' σ Γ → Same F F' → Rep c F' v (.lst ds) → Q v H') :
    ∀ p, H p = none → Q (.ref p) (upd H p (.lst vs)) := fun p hp => by
  obtain ⟨R2, s2, r2⟩ := R.newLst r hp
  exact q _ _ _ R2 s2 r2
theorem Rel.sqT {c : RC} {g : Gh} {F H : Hp} {σ : St} {Γ : G} (R : Rel c g F H σ Γ) {K : PySem.W.Frag} {a : Addr} {xs : List V} (h : F a = some (.tup xs)) : SqT K H a xs := .inl (.inl (R.sub _ _ h))
theorem Rel.sqL {c : RC} {g : Gh} {F H : Hp} {σ : St} {Γ : G} (R : Rel c g F H σ Γ) {K : PySem.W.Frag} {a : Addr} {xs : List V} (h : F a = some (.lst xs)) : SqL K H a xs := .inl (.inl (R.sub _ _ h))
def addD : D → D → Option D
  | .int i, .int j => some (.int (i + j))
  | .tup xs, .tup ys => if xs.length + ys.length ≤ 16777216 then some (.tup (xs ++ ys)) else none
  | .lst xs, .lst ys => if xs.length + ys.length ≤ 16777216 then some (.lst (xs ++ ys)) else none
  | .str a, .str b => if a.length + b.length ≤ 16777216 then some (.str (a ++ b)) else none
  | _, _ => none
theorem od_add : OpR X (binaryOp .Add) (rD X.K addD) := by
  intro pins s σ H x y v u Q I rx ry h
  obtain ⟨c, g, F, σ', Γ, d1, d2, d, hK, R, r1, r2, ho, q⟩ := h
  cases r1 with
  | int i =>
    cases r2 with
    | int j =>
      cases ho
      exact op_add pins s σ H _ _ v u Q I rx ry ⟨i, j, rfl, rfl, rd_same R (.int (i + j)) q⟩
    | _ => cases ho
  | str a =>
    cases r2 with
    | str b =>
      have ho' : (if a.length + b.length ≤ 16777216 then some (D.str (a ++ b)) else none) = some d := ho
      split at ho'
      · cases ho'
        rename_i hz
        exact op_add_str pins s σ H _ _ v u Q I rx ry ⟨a, b, rfl, rfl, by rw [← line_ok]; exact hz, rd_same R (.str (a ++ b)) q⟩
      · cases ho'
    | _ => cases ho
  | @tup a xs ds ha ra =>
    cases r2 with
    | @tup b ys es hb rb =>
      have ho' : (if ds.length + es.length ≤ 16777216 then some (D.tup (ds ++ es)) else none) = some d := ho
      split at ho'
      · cases ho'
        rename_i hz
        have l1 := Reps.length ra
        have l2 := Reps.length rb
        refine op_catA pins s σ H _ _ v u Q I rx ry ⟨a, b, xs, ys, rfl, rfl, R.sqT ha, R.sqT hb, by rw [l1, l2, ← line_ok]; exact hz, fun e => ?_, fun e1 e2 => ?_, fun _ _ => ?_⟩
        · subst e
          cases ra
          exact rd_same R (.tup hb rb) q
        · subst e2
          cases rb
          refine rd_same R (d := .tup (ds ++ [])) ?_ q
          rw [List.append_nil]
          exact .tup ha ra
        · exact rd_tup R (ra.append rb) q
      · cases ho'
    | _ => cases ho
  | @lst a xs ds ha ra =>
    cases r2 with
    | @lst b ys es hb rb =>
      have ho' : (if ds.length + es.length ≤ 16777216 then some (D.lst (ds ++ es)) else none) = some d := ho
      split at ho'
      · cases ho'
        rename_i hz
        have l1 := Reps.length ra
        have l2 := Reps.length rb
        exact op_cat pins s σ H _ _ v u Q I rx ry ⟨a, b, xs, ys, rfl, rfl, R.sub _ _ ha, R.sub _ _ hb, by rw [l1, l2, ← line_ok]; exact hz, rd_lst R (ra.append rb) q⟩
      · cases ho'
    | _ => cases ho
  | _ => cases ho
/-- an int operator -/
theorem od_int {f : Value → Value → Sem Value} {op : D → D → Option D} {C : Int → Int → Prop} {k : Int → Int → V} {k' : Int → Int → D} (rule : OpR X f (rI C k)) (h : ∀ d1 d2 d, op d1 d2 = some d → ∃ i j, d1 = .int i ∧ d2 = .int j ∧ C i j ∧ d = k' i j)
    (hr : ∀ c F i j, Rep c F (k i j) (k' i j)) : OpR X f (rD X.K op) := by
  intro pins s σ H x y v u Q I rx ry hh
  obtain ⟨c, g, F, σ', Γ, d1, d2, d, hK, R, r1, r2, ho, q⟩ := hh
  obtain ⟨i, j, rfl, rfl, hC, rfl⟩ := h _ _ _ ho
  cases r1
  cases r2
  exact rule pins s σ H _ _ v u Q I rx ry ⟨i, j, rfl, rfl, hC, rd_same R (hr _ _ _ _) q⟩
theorem rI_of {f : Value → Value → Sem Value} {k : Int → Int → V} (h : OpR X f (rI0 k)) : OpR X f (rI (fun _ _ => True) k) := fun pins s σ H x y v u Q I rx ry ⟨i, j, e1, e2, _, q⟩ => h pins s σ H x y v u Q I rx ry ⟨i, j, e1, e2, q⟩
def intOp (C : Int → Int → Bool) (k : Int → Int → D) : D → D → Option D
  | .int i, .int j => if C i j then some (k i j) else none
  | _, _ => none
theorem intOp_inv {C : Int → Int → Bool} {k : Int → Int → D} : ∀ d1 d2 d, intOp C k d1 d2 = some d → ∃ i j, d1 = .int i ∧ d2 = .int j ∧ C i j = true ∧ d = k i j := by
  intro d1 d2 d h
  unfold intOp at h
  split at h
  · split at h
    · rename_i i j hc
      cases h
      exact ⟨i, j, rfl, rfl, hc, rfl⟩
    · cases h
  · cases h
def always : Int → Int → Bool := fun _ _ => true
def subD := intOp always fun i j => .int (i - j)
theorem od_sub : OpR X (binaryOp .Sub) (rD X.K subD) := od_int (k' := fun i j => .int (i - j)) (rI_of op_sub) (fun d1 d2 d h => by
  obtain ⟨i, j, a, b, _, e⟩ := intOp_inv d1 d2 d h
  exact ⟨i, j, a, b, trivial, e⟩) fun _ _ _ _ => .int _
def smallI (i : Int) : Bool := decide (-(2 ^ 64) < i ∧ i < 2 ^ 64)
def okMul (i j : Int) : Bool := smallI i || smallI j || decide (i.natAbs.log2 + j.natAbs.log2 < 1000000)
theorem OpR.byC {f : Value → Value → Sem Value} {C1 C2 : Int → Int → Prop} {k : Int → Int → V} (h1 : OpR X f (rI C1 k)) (h2 : OpR X f (rI C2 k)) : OpR X f (rI (fun i j => C1 i j ∨ C2 i j) k) := fun pins s σ H x y v u Q I rx ry ⟨i, j, e1, e2, hc, q⟩ => by
  rcases hc with hc | hc
  · exact h1 pins s σ H x y v u Q I rx ry ⟨i, j, e1, e2, hc, q⟩
  · exact h2 pins s σ H x y v u Q I rx ry ⟨i, j, e1, e2, hc, q⟩
theorem okMul_iff {i j : Int} (h : okMul i j = true) : CMul i j ∨ CMulW i j := by
  unfold okMul smallI at h
  simp only [Bool.or_eq_true, decide_eq_true_eq] at h
  rcases h with (h | h) | h
  · exact .inl (.inl h)
  · exact .inl (.inr h)
  · exact .inr h
/-- n * m, and a list so many times -/
def mulD : D → D → Option D
  | .int i, .int j => if okMul i j then some (.int (i * j)) else none
  | .lst ds, .int k => if 0 ≤ k ∧ k ≤ 1000000 ∧ ds.length * k.toNat ≤ 16777216 then some (.lst (List.replicate k.toNat ds).flatten) else none
  | _, _ => none
theorem Reps.rep {c : RC} {F : Hp} {vs : List V} {ds : List D} (r : Reps c F vs ds) : ∀ k : Nat, Reps c F (List.replicate k vs).flatten (List.replicate k ds).flatten
  | 0 => .nil
  | k + 1 => by
    rw [List.replicate_succ, List.replicate_succ, List.flatten_cons, List.flatten_cons]
    exact r.append (Reps.rep r k)
def pow_ok (i j : Int) : Bool := decide (0 ≤ j ∧ j ≤ 1000000 ∧ i.natAbs < 2 ^ 64)
def powD := intOp pow_ok fun i j => .int (i ^ j.toNat)
theorem od_pow : OpR X (binaryOp .Pow) (rD X.K powD) := od_int (k' := fun i j => .int (i ^ j.toNat)) op_pow (fun d1 d2 d h => by
  obtain ⟨i, j, a, b, hc, e⟩ := intOp_inv d1 d2 d h
  have h2 : 0 ≤ j ∧ j ≤ 1000000 ∧ i.natAbs < 2 ^ 64 := of_decide_eq_true hc
  exact ⟨i, j, a, b, h2, e⟩) fun _ _ _ _ => .int _
def okDiv (i j : Int) : Bool := decide (j ≠ 0 ∧ j.natAbs < 1073741824) || decide (0 < j ∧ j.natAbs.log2 < 9000)
def divD := intOp okDiv fun i j => .int (i.fdiv j)
theorem op_fdivW' : OpR X (binaryOp .FloorDiv) (rI CDivW fun i j => .int (i.fdiv j)) := fun pins s σ H x y v u Q I rx ry ⟨i, j, e1, e2, hc, q⟩ => op_fdivW pins s σ H x y v u Q I rx ry ⟨i, j, e1, e2, hc, by
  show Q (V.int (i / j)) H
  rw [← Int.fdiv_eq_ediv_of_nonneg i (Int.le_of_lt hc.1)]
  exact q⟩
theorem od_div : OpR X (binaryOp .FloorDiv) (rD X.K divD) := od_int (k' := fun i j => .int (i.fdiv j)) (OpR.byC op_fdivN op_fdivW') (fun d1 d2 d h => by
  obtain ⟨i, j, a, b, hc, e⟩ := intOp_inv d1 d2 d h
  refine ⟨i, j, a, b, ?_, e⟩
  unfold okDiv at hc
  simp only [Bool.or_eq_true, decide_eq_true_eq] at hc
  exact hc) fun _ _ _ _ => .int _
def modD := intOp (fun _ j => decide (j ≠ 0)) fun i j => .int (i.fmod j)
theorem od_mod : OpR X (binaryOp .Mod) (rD X.K modD) := od_int (k' := fun i j => .int (i.fmod j)) op_modN (fun d1 d2 d h => by
  obtain ⟨i, j, a, b, hc, e⟩ := intOp_inv d1 d2 d h
  exact ⟨i, j, a, b, of_decide_eq_true hc, e⟩) fun _ _ _ _ => .int _
theorem od_mul : OpR X (binaryOp .Mult) (rD X.K mulD) := by
  intro pins s σ H x y v u Q I rx ry h
  obtain ⟨c, g, F, σ', Γ, d1, d2, d, hK, R, r1, r2, ho, q⟩ := h
  cases r1 with
  | int i =>
    cases r2 with
    | int j =>
      have ho' : (if okMul i j then some (D.int (i * j)) else none) = some d := ho
      split at ho'
      · cases ho'
        rename_i hc
        exact (OpR.byC op_mul op_mulW) pins s σ H _ _ v u Q I rx ry ⟨i, j, rfl, rfl, okMul_iff hc, rd_same R (.int (i * j)) q⟩
      · cases ho'
    | _ => cases ho
  | @lst a xs ds ha ra =>
    cases r2 with
    | int k =>
      have ho' : (if 0 ≤ k ∧ k ≤ 1000000 ∧ ds.length * k.toNat ≤ 16777216 then some (D.lst (List.replicate k.toNat ds).flatten) else none) = some d := ho
      split at ho'
      · cases ho'
        rename_i hc
        obtain ⟨h0, h1, h2⟩ := hc
        have l1 := Reps.length ra
        exact op_rep pins s σ H _ _ v u Q I rx ry ⟨a, k, xs, rfl, rfl, R.sub _ _ ha, by omega, by omega, by rw [l1, ← line_ok]; exact h2, rd_lst R (ra.rep k.toNat) q⟩
      · cases ho'
    | _ => cases ho
  | _ => cases ho
def leD := intOp always fun i j => .bl (decide (i ≤ j))
def gtD := intOp always fun i j => .bl (decide (j < i))
theorem od_le : OpR X (compareOp .LtE) (rD X.K leD) := od_int (k' := fun i j => .bl (decide (i ≤ j))) (rI_of op_le) (fun d1 d2 d h => by
  obtain ⟨i, j, a, b, _, e⟩ := intOp_inv d1 d2 d h
  exact ⟨i, j, a, b, trivial, e⟩) fun _ _ _ _ => .bl _
theorem od_gt : OpR X (compareOp .Gt) (rD X.K gtD) := od_int (k' := fun i j => .bl (decide (j < i))) (rI_of op_gt) (fun d1 d2 d h => by
  obtain ⟨i, j, a, b, _, e⟩ := intOp_inv d1 d2 d h
  exact ⟨i, j, a, b, trivial, e⟩) fun _ _ _ _ => .bl _
mutual
def D.pd : D → Option PyData
  | .non => some .none
  | .bl b => some (.bool b)
  | .int i => some (.int i)
  | .str x => some (.str x)
  | .tup ds => (D.pds ds).map .tuple
  | .lst ds => (D.pds ds).map .list
  | _ => none
def D.pds : List D → Option (List PyData)
  | [] => some []
  | d :: r => match D.pd d, D.pds r with
    | some p, some q => some (p :: q)
    | _, _ => none
end
mutual
theorem dp_of {c : RC} {F : Hp} {K : PySem.W.Frag} {H : Hp} (s : Same F H) : ∀ {v : V} {d : D} {p : PyData}, Rep c F v d → d.pd = some p → Dp K H v p
  | _, _, _, .non, e => by cases e; exact .non
  | _, _, _, .bl b, e => by cases e; exact .bl b
  | _, _, _, .int i, e => by cases e; exact .int i
  | _, _, _, .str x, e => by cases e; exact .str x
  | _, _, _, .tup (ds := ds) h r, e => by
    have e' : (D.pds ds).map PyData.tuple = some _ := e
    cases hq : D.pds ds with
    | none => rw [hq] at e'; cases e'
    | some q => rw [hq] at e'; cases e'; exact .tup (.inl (.inl (s _ _ h))) (dps_of s r hq)
  | _, _, _, .lst (ds := ds) h r, e => by
    have e' : (D.pds ds).map PyData.list = some _ := e
    cases hq : D.pds ds with
    | none => rw [hq] at e'; cases e'
    | some q => rw [hq] at e'; cases e'; exact .lst (.inl (.inl (s _ _ h))) (dps_of s r hq)
  | _, _, _, .dic _ _ _, e => by cases e
  | _, _, _, .obj _ _ _, e => by cases e
  | _, _, _, .exc _, e => by cases e
  | _, _, _, .glob _, e => by cases e
  | _, _, _, .ty _, e => by cases e
  | _, _, _, .st, e => by cases e
  | _, _, _, .gr, e => by cases e
  | _, _, _, .scr _, e => by cases e
theorem dps_of {c : RC} {F : Hp} {K : PySem.W.Frag} {H : Hp} (s : Same F H) : ∀ {vs : List V} {ds : List D} {ps : List PyData}, Reps c F vs ds → D.pds ds = some ps → DpAll K H vs ps
  | _, _, _, .nil, e => by cases e; exact .nil
  | _, _, _, .cons (d := d) (ds := ds) h r, e => by
    unfold D.pds at e
    cases hd : d.pd with
    | none => rw [hd] at e; cases e
    | some p =>
      cases hr : D.pds ds with
      | none => rw [hd, hr] at e; cases e
      | some q => rw [hd, hr] at e; cases e; exact .cons (dp_of s h hd) (dps_of s r hr)
end
def eqD (a b : D) : Option D := match a.pd, b.pd with
  | some p, some q => if SeqAt.shaped p && SeqAt.shaped q then some (.bl (PyData.eqv p q)) else none
  | _, _ => none
def neD (a b : D) : Option D := match a.pd, b.pd with
  | some p, some q => if SeqAt.shaped p && SeqAt.shaped q then some (.bl (!PyData.eqv p q)) else none
  | _, _ => none
theorem eqD_inv {a b d : D} (h : eqD a b = some d) : ∃ p q, a.pd = some p ∧ b.pd = some q ∧ SeqAt.shaped p = true ∧ SeqAt.shaped q = true ∧ d = .bl (PyData.eqv p q) := by
  unfold eqD at h
  split at h
  · rename_i p q e1 e2
    split at h
    · rename_i hc
      rw [Bool.and_eq_true] at hc
      cases h
      exact ⟨p, q, e1, e2, hc.1, hc.2, rfl⟩
    · cases h
  · cases h
theorem neD_inv {a b d : D} (h : neD a b = some d) : ∃ p q, a.pd = some p ∧ b.pd = some q ∧ SeqAt.shaped p = true ∧ SeqAt.shaped q = true ∧ d = .bl (!PyData.eqv p q) := by
  unfold neD at h
  split at h
  · rename_i p q e1 e2
    split at h
    · rename_i hc
      rw [Bool.and_eq_true] at hc
      cases h
      exact ⟨p, q, e1, e2, hc.1, hc.2, rfl⟩
    · cases h
  · cases h
theorem od_eq (hu : X.A.units + 64 < cLine) : OpR X (compareOp .Eq) (rD X.K eqD) := by
  intro pins s σ H x y v u Q I rx ry h
  obtain ⟨c, g, F, σ', Γ, d1, d2, d, hK, R, r1, r2, ho, q⟩ := h
  obtain ⟨p1, p2, e1, e2, s1, s2, rfl⟩ := eqD_inv ho
  exact op_eqD hu pins s σ H x y v u Q I rx ry ⟨p1, p2, dp_of R.sub r1 e1, dp_of R.sub r2 e2, s1, s2, rd_same R (.bl _) q⟩
theorem od_ne (hu : X.A.units + 64 < cLine) : OpR X (compareOp .NotEq) (rD X.K neD) := by
  intro pins s σ H x y v u Q I rx ry h
  obtain ⟨c, g, F, σ', Γ, d1, d2, d, hK, R, r1, r2, ho, q⟩ := h
  obtain ⟨p1, p2, e1, e2, s1, s2, rfl⟩ := neD_inv ho
  exact op_neD hu pins s σ H x y v u Q I rx ry ⟨p1, p2, dp_of R.sub r1 e1, dp_of R.sub r2 e2, s1, s2, rd_same R (.bl _) q⟩
def isD : D → D → Option D
  | .bl a, .bl b => some (.bl (decide (a = b)))
  | .non, .non => some (.bl true)
  | _, .non => some (.bl false)
  | _, _ => none
def isntD : D → D → Option D
  | .bl a, .bl b => some (.bl (!decide (a = b)))
  | .non, .non => some (.bl false)
  | _, .non => some (.bl true)
  | _, _ => none
theorem od_is : OpR X (compareOp .Is) (rD X.K isD) := by
  intro pins s σ H x y v u Q I rx ry h
  obtain ⟨c, g, F, σ', Γ, d1, d2, d, hK, R, r1, r2, ho, q⟩ := h
  cases r2 with
  | bl b =>
    cases r1 with
    | bl a => cases ho; exact op_isBl pins s σ H _ _ v u Q I rx ry ⟨a, b, rfl, rfl, rd_same R (.bl _) q⟩
    | _ => cases ho
  | non =>
    cases r1 with
    | non => cases ho; exact op_isN pins s σ H _ _ v u Q I rx ry ⟨rfl, rd_same R (.bl true) q⟩
    | _ => cases ho; exact op_isN pins s σ H _ _ v u Q I rx ry ⟨rfl, rd_same R (.bl false) q⟩
  | _ => cases r1 <;> cases ho
def negM (f : M D) : M D := fun Γ => (f Γ).bind fun d Γ1 => match d with
  | .int i => .ok (.int (-i)) Γ1
  | _ => .stuck
theorem se_neg {E : XK} {a : Expr} {fa : M D} {pos : Pos} (ha : PE X a (tOf X.K E fa)) : PE X (.UnaryOp .USub a pos) (tOf X.K E (negM fa)) :=
  PE_imp (pe_un un_neg ha) fun σ H Q ⟨c, g, F, Γ, hK, R, h⟩ => ⟨c, g, F, Γ, hK, R, (Post.split (rel2 := relD c) h).imp fun v H1 ⟨F1, Γ1, d, R1, s1, r1, h1⟩ => by
    cases r1 with
    | int i => exact ⟨i, rfl, h1 _ H1 F1 R1 (Same.refl _) (.int _)⟩
    | _ => exact h1.elim⟩
end
end DS
set_option maxRecDepth 100000
set_option maxHeartbeats 4000000
namespace DS
open PySem PySem.Spec L2
section
variable {X : Cx} {E : XK} {a b e : Expr} {fa fb : M D} {pos : Pos}
def rC (K : PySem.W.Frag) (op : List D → Option D) : List V → Hp → VK → Prop := fun xs H Q => ∃ c g F σ Γ ds d, c.K = K ∧ Rel c g F H σ Γ ∧ Reps c F xs ds ∧ op ds = some d ∧ ∀ v H' F', Rel c g F' H' σ Γ → Same F F' → Rep c F' v d → Q v H'
def appM (op : List D → Option D) (f : M (List D)) : M D := fun Γ => (f Γ).bind fun ds Γ1 => liftO (op ds) Γ1
theorem app_to {op : List D → Option D} {f : M (List D)} {σ : St} {H : Hp} {Q : VK} (h : tOf X.K E (appM op f) σ H Q) : aOf X.K E f σ H fun vs H1 => rC X.K op vs H1 Q := by
  obtain ⟨c, g, F, Γ, hK, R, h⟩ := h
  refine ⟨c, g, F, Γ, hK, R, (Post.split (rel2 := relA c) h).imp fun vs H1 ⟨F1, Γ1, ds, R1, s1, r1, h1⟩ => ?_⟩
  unfold liftO at h1
  cases ho : op ds with
  | none => rw [ho] at h1; exact h1.elim
  | some d => rw [ho] at h1; exact ⟨c, g, F1, σ, Γ1, ds, d, hK, R1, r1, ho, fun v H' F' R' s' r' => h1 v H' F' R' s' r'⟩
theorem se_callB {x : Str} {id : String} {op : List D → Option D} {es : List Expr} {f : M (List D)} {p : Pos} (hc : CallR X (.builtin id) (rC X.K op)) (hg : Gl X x) (hm : X.mg x = none) (hv : bootBuiltins x = some (.builtin id)) (ha : PA X (e :: es) (aOf X.K E f))
    (hn : x ≠ "__name__" := by decide) (hdb : (x == ("__debug__" : Str)) = false := by decide) (he : starEach (e :: es) X.env = (false, eval e X.env) :: starEach es X.env := by rfl) (hpl : (backTo pos (starEach es X.env)).any (·.1) = false := by rfl) :
    PE X (.Call (.Name x p) (e :: es) [] pos) (tOf X.K E (appM op f)) := PE_imp (pe_callB hc hg hm hv ha hn hdb he hpl) fun σ H Q h => app_to h
theorem se_callT {x : Str} {T : String} {op : List D → Option D} {es : List Expr} {f : M (List D)} {p : Pos} (hc : CallR X (.type T) (rC X.K op)) (hg : Gl X x) (hm : X.mg x = none) (hv : bootBuiltins x = some (.type T)) (ha : PA X (e :: es) (aOf X.K E f))
    (hn : x ≠ "__name__" := by decide) (hdb : (x == ("__debug__" : Str)) = false := by decide) (he : starEach (e :: es) X.env = (false, eval e X.env) :: starEach es X.env := by rfl) (hpl : (backTo pos (starEach es X.env)).any (·.1) = false := by rfl) :
    PE X (.Call (.Name x p) (e :: es) [] pos) (tOf X.K E (appM op f)) := PE_imp (pe_callTy hc hg hm hv ha hn hdb he hpl) fun σ H Q h => app_to h
def lenD : List D → Option D
  | [.tup ds] => some (.int ds.length)
  | [.lst ds] => some (.int ds.length)
  | [.scr ns] => some (.int ns.length)
  | [.str x] => if x.length ≤ 16777216 then some (.int x.length) else none
  | _ => none
theorem cd_len : CallR X (.builtin "len") (rC X.K lenD) := by
  intro pins s σ H xs us Q I r h
  obtain ⟨c, g, F, σ', Γ, ds, d, hK, R, rs, ho, q⟩ := h
  cases rs with
  | nil => cases ho
  | cons r1 r2 =>
    cases r2 with
    | cons _ _ => exact absurd ho (by unfold lenD; split <;> simp_all)
    | nil =>
      cases r1 with
      | @tup a ys es ha ra =>
        cases ho
        rw [← Reps.length ra] at q
        exact call_len_seq pins s σ H _ us Q I r ⟨a, ys, rfl, .inr (R.sqT ha), rd_same R (.int _) q⟩
      | @lst a ys es ha ra =>
        cases ho
        rw [← Reps.length ra] at q
        exact call_len_seq pins s σ H _ us Q I r ⟨a, ys, rfl, .inl (R.sqL ha), rd_same R (.int _) q⟩
      | @scr a ns ha =>
        cases ho
        have e : ns.length = (ns.map V.int).length := by simp
        rw [e] at q
        exact call_len_seq pins s σ H _ us Q I r ⟨a, ns.map V.int, rfl, .inl (hK ▸ sql_mono R.sub ha), rd_same R (.int _) q⟩
      | str x =>
        have ho' : (if x.length ≤ 16777216 then some (D.int x.length) else none) = some d := ho
        split at ho'
        · cases ho'
          rename_i hz
          exact call_len_str pins s σ H _ us Q I r ⟨x, rfl, by rw [← line_ok]; exact hz, rd_same R (.int _) q⟩
        · cases ho'
      | _ => cases ho
def absD : List D → Option D
  | [.int i] => some (.int (if i < 0 then -i else i))
  | _ => none
theorem cd_abs : CallR X (.builtin "abs") (rC X.K absD) := by
  intro pins s σ H xs us Q I r h
  obtain ⟨c, g, F, σ', Γ, ds, d, hK, R, rs, ho, q⟩ := h
  unfold absD at ho
  split at ho
  · cases ho
    cases rs with
    | cons r1 r2 =>
      cases r1
      cases r2
      exact call_abs pins s σ H _ us Q I r ⟨_, rfl, rd_same R (.int _) q⟩
  · cases ho
def min2D : List D → Option D
  | [.int i, .int j] => some (.int (if j < i then j else i))
  | _ => none
theorem cd_min2 (hc : X.calm = true) : CallR X (.builtin "min") (rC X.K min2D) := by
  intro pins s σ H xs us Q I r h
  obtain ⟨c, g, F, σ', Γ, ds, d, hK, R, rs, ho, q⟩ := h
  unfold min2D at ho
  split at ho
  · cases ho
    cases rs with
    | cons r1 r2 =>
      cases r2 with
      | cons r2 r3 =>
        cases r1
        cases r2
        cases r3
        exact call_min2 hc pins s σ H _ us Q I r ⟨_, _, rfl, rd_same R (.int _) q⟩
  · cases ho
def intD : List D → Option D
  | [.int i] => some (.int i)
  | [.bl b] => some (.int (if b then 1 else 0))
  | _ => none
theorem cd_int : CallR X (.type "int") (rC X.K intD) := by
  intro pins s σ H xs us Q I r h
  obtain ⟨c, g, F, σ', Γ, ds, d, hK, R, rs, ho, q⟩ := h
  unfold intD at ho
  split at ho
  · cases ho
    cases rs with
    | cons r1 r2 =>
      cases r1
      cases r2
      exact call_int1 pins s σ H _ us Q I r (.inl ⟨_, rfl, rd_same R (.int _) q⟩)
  · cases ho
    cases rs with
    | cons r1 r2 =>
      cases r1
      cases r2
      exact call_int1 pins s σ H _ us Q I r (.inr ⟨_, rfl, rd_same R (.int _) q⟩)
  · cases ho
def tupleD : List D → Option D
  | [.lst ds] => some (.tup ds)
  | [.tup ds] => some (.tup ds)
  | _ => none
theorem cd_tuple : CallR X (.type "tuple") (rC X.K tupleD) := by
  intro pins s σ H xs us Q I r h
  obtain ⟨c, g, F, σ', Γ, ds, d, hK, R, rs, ho, q⟩ := h
  unfold tupleD at ho
  split at ho
  · cases ho
    cases rs with
    | cons r1 r2 =>
      cases r2
      cases r1 with
      | @lst a ys es ha ra => exact call_tuple_of pins s σ H _ us Q I r ⟨a, ys, rfl, .inl ⟨R.sqL ha, rd_tup R ra q⟩⟩
  · cases ho
    cases rs with
    | cons r1 r2 =>
      cases r2
      cases r1 with
      | @tup a ys es ha ra => exact call_tuple_of pins s σ H _ us Q I r ⟨a, ys, rfl, .inr ⟨R.sqT ha, rd_same R (.tup ha ra) q⟩⟩
  · cases ho
/-- all, any of a list of bools -/
def D.bools : List D → Option (List Bool)
  | [] => some []
  | .bl b :: r => (D.bools r).map (b :: ·)
  | _ :: _ => none
theorem bools_rep {c : RC} {F : Hp} : ∀ {vs : List V} {ds : List D} {bs : List Bool}, Reps c F vs ds → D.bools ds = some bs → vs = bs.map V.bl
  | _, _, _, .nil, e => by cases e; rfl
  | _, _, _, .cons (d := d) (ds := ds) h r, e => by
    cases h with
    | bl b =>
      have e' : (D.bools ds).map (b :: ·) = some _ := e
      cases hq : D.bools ds with
      | none => rw [hq] at e'; cases e'
      | some q => rw [hq] at e'; cases e'; rw [bools_rep r hq]; rfl
    | _ => cases e
def allD : List D → Option D
  | [.lst ds] => (D.bools ds).map fun bs => .bl (bs.all id)
  | _ => none
theorem cd_all (hc : X.calm = true) : CallR X (.builtin "all") (rC X.K allD) := by
  intro pins s σ H xs us Q I r h
  obtain ⟨c, g, F, σ', Γ, ds, d, hK, R, rs, ho, q⟩ := h
  unfold allD at ho
  split at ho
  · rename_i es
    cases rs with
    | cons r1 r2 =>
      cases r2
      cases hq : D.bools es with
      | none => rw [hq] at ho; cases ho
      | some bs =>
        rw [hq] at ho
        cases ho
        cases r1 with
        | @lst a ys _ ha ra =>
          have ev := bools_rep ra hq
          subst ev
          exact cr_all hc pins s σ H _ us Q I r ⟨a, bs, rfl, R.sqL ha, rd_same R (.bl _) q⟩
  · cases ho
/-- list(xs): a new list -/
def listD : List D → Option (List D)
  | [.lst ds] => some ds
  | [.tup ds] => some ds
  | _ => none
def appL (op : List D → Option (List D)) (f : M (List D)) : M (List D) := fun Γ => (f Γ).bind fun ds Γ1 => liftO (op ds) Γ1
theorem sl_list {es : List Expr} {f : M (List D)} {p : Pos} (hg : Gl X "list") (hm : X.mg "list" = none) (ha : PA X (e :: es) (aOf X.K E f))
    (he : starEach (e :: es) X.env = (false, eval e X.env) :: starEach es X.env := by rfl) (hpl : (backTo pos (starEach es X.env)).any (·.1) = false := by rfl) :
    PE X (.Call (.Name "list" p) (e :: es) [] pos) (lOf X.K E (appL listD f)) :=
  PE_imp (pe_callTy call_list_of hg hm (by decide +kernel) ha (by decide) (by decide) he hpl) fun σ H Q ⟨c, g, F, Γ, hK, R, h⟩ => ⟨c, g, F, Γ, hK, R, (Post.split (rel2 := relA c) h).imp fun vs H1 ⟨F1, Γ1, ds, R1, s1, r1, h1⟩ => by
    unfold liftO listD at h1
    split at h1
    · rename_i a es ho
      split at ho
      · cases ho
        cases r1 with
        | cons r1 r2 =>
          cases r2
          cases r1 with
          | @lst a ys _ ha ra =>
            refine ⟨a, ys, rfl, .inl (R1.sqL ha), fun l hl => ?_⟩
            obtain ⟨R2, r2⟩ := R1.newL ra hl
            exact h1 _ _ _ R2 (Same.refl _) r2
      · cases ho
        cases r1 with
        | cons r1 r2 =>
          cases r2
          cases r1 with
          | @tup a ys _ ha ra =>
            refine ⟨a, ys, rfl, .inr (R1.sqT ha), fun l hl => ?_⟩
            obtain ⟨R2, r2⟩ := R1.newL ra hl
            exact h1 _ _ _ R2 (Same.refl _) r2
      · cases ho
    · exact h1.elim⟩
def ixD : D → D → Option D
  | .tup ds, .int i => atI ds i
  | .lst ds, .int i => atI ds i
  | _, _ => none
theorem atI_rep {c : RC} {F : Hp} {vs : List V} {ds : List D} {i : Int} {d : D} (r : Reps c F vs ds) (h : atI ds i = some d) : ∃ v, atI vs i = some v ∧ Rep c F v d := by
  unfold atI at h ⊢
  rw [Reps.length r]
  cases hj : ixN ds.length i with
  | none => rw [hj] at h; cases h
  | some j => rw [hj] at h; exact r.get h
theorem ixd : IxR X (rD X.K ixD) := by
  intro ve se pins s σ H x y v u Q I rx ry h hsub
  obtain ⟨c, g, F, σ', Γ, d1, d2, d, hK, R, r1, r2, ho, q⟩ := h
  cases r1 with
  | @tup a xs ds ha ra =>
    cases r2 with
    | int i =>
      obtain ⟨w, e1, r⟩ := atI_rep ra (show atI ds i = some d from ho)
      exact ix_tup ve se pins s σ H _ _ v u Q I rx ry ⟨a, xs, i, w, rfl, rfl, R.sqT ha, e1, rd_same R r q⟩ hsub
    | _ => cases ho
  | @lst a xs ds ha ra =>
    cases r2 with
    | int i =>
      obtain ⟨w, e1, r⟩ := atI_rep ra (show atI ds i = some d from ho)
      exact ix_list ve se pins s σ H _ _ v u Q I rx ry ⟨a, xs, i, w, rfl, rfl, R.sqL ha, e1, rd_same R r q⟩ hsub
    | _ => cases ho
  | _ => cases ho
theorem se_ix (ha : PE X a (tOf X.K E fa)) (hb : PE X b (tOf X.K E fb)) (hs : PlainIx b := by exact fun _ _ => rfl) : PE X (.Subscript a b pos) (tOf X.K E (binM ixD fa fb)) :=
  PE_imp (pe_ix ixd ha hb hs) fun σ H Q h => bin_to h
def oOf (K : PySem.W.Frag) (E : XK) (f : M (Option Int)) : TO := fun σ H Q => ∃ c g F Γ, c.K = K ∧ Rel c g F H σ Γ ∧ Post c g σ E (fun _ _ _ (b a : Option Int) => b = a) Q F (f Γ)
def partM (f : M D) : M (Option Int) := fun Γ => (f Γ).bind fun d Γ1 => match d with
  | .int i => .ok (some i) Γ1
  | _ => .stuck
theorem PO_imp {o : Option Expr} {t t' : TO} (h : PO X o t) (k : ∀ σ H Q, t' σ H Q → t σ H Q) : PO X o t' := ⟨fun pins s σ H Q I q => h.run pins s σ H Q I (k _ _ _ q)⟩
theorem so_none : PO X none (oOf X.K E (retM none)) := PO_imp po_none fun σ H Q ⟨c, g, F, Γ, hK, R, h⟩ => h none H F R (Same.refl F) rfl
theorem so_some (ha : PE X a (tOf X.K E fa)) : PO X (some a) (oOf X.K E (partM fa)) := PO_imp (po_some ha) fun σ H Q ⟨c, g, F, Γ, hK, R, h⟩ => ⟨c, g, F, Γ, hK, R, (Post.split (rel2 := relD c) h).imp fun v H1 ⟨F1, Γ1, d, R1, s1, r1, h1⟩ => by
    cases r1 with
    | int i => exact ⟨i, rfl, h1 _ H1 F1 R1 (Same.refl _) rfl⟩
    | _ => exact h1.elim⟩
def cutD (ds : List D) (lo hi : Option Int) : List D := (ds.drop (HT.sIx ds.length 0 lo)).take (HT.sIx ds.length ds.length hi - HT.sIx ds.length 0 lo)
theorem cut_rep {c : RC} {F : Hp} {vs : List V} {ds : List D} (r : Reps c F vs ds) (lo hi : Option Int) : Reps c F (cutV vs lo hi) (cutD ds lo hi) := by
  unfold cutV cutD
  rw [Reps.length r]
  exact (r.drop _).take _
def sliceD (d : D) (lo hi : Option Int) : Option D := match d with
  | .tup ds => some (.tup (cutD ds lo hi))
  | .lst ds => some (.lst (cutD ds lo hi))
  | _ => none
def rSlD (K : PySem.W.Frag) : V → Option Int → Option Int → Hp → VK → Prop := fun x lo hi H Q => ∃ c g F σ Γ d1 d, c.K = K ∧ Rel c g F H σ Γ ∧ Rep c F x d1 ∧ sliceD d1 lo hi = some d ∧ ∀ v H' F', Rel c g F' H' σ Γ → Same F F' → Rep c F' v d → Q v H'
theorem cut_whole (ds : List D) (lo hi : Option Int) (h : HT.sIx ds.length 0 lo = 0 ∧ HT.sIx ds.length ds.length hi = ds.length) : cutD ds lo hi = ds := by
  unfold cutD
  rw [h.1, h.2]
  simp
theorem sld : SlR X (rSlD X.K) := by
  intro pins s σ H x v vl vu lo hi sl Q I rx hs pl pu h
  obtain ⟨c, g, F, σ', Γ, d1, d, hK, R, r1, ho, q⟩ := h
  cases r1 with
  | @tup a xs ds ha ra =>
    cases ho
    refine sl_tupA pins s σ H _ v vl vu lo hi sl Q I rx hs pl pu ⟨a, xs, rfl, R.sqT ha, fun hw => ?_, fun _ => rd_tup R (cut_rep ra lo hi) q⟩
    rw [Reps.length ra] at hw
    refine rd_same R (d := .tup (cutD ds lo hi)) ?_ q
    rw [cut_whole ds lo hi hw]
    exact .tup ha ra
  | @lst a xs ds ha ra =>
    cases ho
    exact L2.sl_list pins s σ H _ v vl vu lo hi sl Q I rx hs pl pu ⟨a, xs, rfl, R.sqL ha, rd_lst R (cut_rep ra lo hi) q⟩
  | _ => cases ho
def sliceM (fa : M D) (fl fh : M (Option Int)) : M D := fun Γ => (fa Γ).bind fun d Γ1 => (fl Γ1).bind fun l Γ2 => (fh Γ2).bind fun u Γ3 => liftO (sliceD d l u) Γ3
theorem se_slice {lo hi : Option Expr} {fl fh : M (Option Int)} {p2 : Pos} (ha : PE X a (tOf X.K E fa)) (hl : PO X lo (oOf X.K E fl)) (hu : PO X hi (oOf X.K E fh)) : PE X (.Subscript a (.Slice lo hi none p2) pos) (tOf X.K E (sliceM fa fl fh)) :=
  PE_imp (pe_slice sld ha hl hu) fun σ H Q ⟨c, g, F, Γ, hK, R, h⟩ => ⟨c, g, F, Γ, hK, R, (Post.split (rel2 := relD c) h).imp fun v H1 ⟨F1, Γ1, d, R1, s1, r1, h1⟩ =>
    ⟨c, g, F1, Γ1, hK, R1, (Post.split (rel2 := fun _ _ _ b a => b = a) h1).imp fun l H2 ⟨F2, Γ2, l', R2, s2, r2, h2⟩ => ⟨c, g, F2, Γ2, hK, R2, (Post.split (rel2 := fun _ _ _ b a => b = a) h2).imp fun u H3 ⟨F3, Γ3, u', R3, s3, r3, h3⟩ => by
      subst r2 r3
      unfold liftO at h3
      cases ho : sliceD d l u with
      | none => rw [ho] at h3; exact h3.elim
      | some d' => rw [ho] at h3; exact ⟨c, g, F3, σ, Γ3, d, d', hK, R3, Rep.mono (s2.trans s3) r1, ho, fun v' H' F' R' s' r' => h3 v' H' F' R' s' r'⟩⟩⟩⟩
def fldD (n : String) (f : Str) : D → Option D
  | .obj m fs => if m = n then fs.lookup f else none
  | _ => none
def fldM (n : String) (f : Str) (fa : M D) : M D := fun Γ => (fa Γ).bind fun d Γ1 => liftO (fldD n f d) Γ1
theorem zip_lookup {c : RC} {F : Hp} {f : Str} {d : D} : ∀ {ks : List Str} {vs : List V} {ds : List D}, Reps c F vs ds → ks.length = vs.length → (ks.zip ds).lookup f = some d → ∃ v, (ks.zip vs).lookup f = some v ∧ Rep c F v d
  | [], _, _, _, _, h => by cases h
  | k :: ks, _, _, .nil, h, _ => by cases h
  | k :: ks, v :: vs, d' :: ds, .cons r rs, hl, h => by
    have h' : List.lookup f ((k, d') :: List.zip ks ds) = some d := h
    show ∃ w, List.lookup f ((k, v) :: List.zip ks vs) = some w ∧ _
    rw [List.lookup_cons] at h' ⊢
    cases hk : f == k with
    | true => rw [hk] at h'; cases h'; exact ⟨v, rfl, r⟩
    | false => rw [hk] at h'; exact zip_lookup rs (by simpa using hl) h'
theorem se_fld (n : String) {f : Str} (cl : Cls X.K (ce X.K n)) (na : NoAttr X.K (ce X.K n) f) (ha : PE X a (tOf X.K E fa)) (hb : attributeBase a f X.env (eval a X.env) = eval a X.env := by rfl) : PE X (.Attribute a f pos) (tOf X.K E (fldM n f fa)) :=
  PE_imp (pe_fld ha hb) fun σ H Q ⟨c, g, F, Γ, hK, R, h⟩ => ⟨c, g, F, Γ, hK, R, (Post.split (rel2 := relD c) h).imp fun v H1 ⟨F1, Γ1, d, R1, s1, r1, h1⟩ => by
    unfold liftO at h1
    cases ho : fldD n f d with
    | none => rw [ho] at h1; exact h1.elim
    | some d' =>
      rw [ho] at h1
      cases r1 with
      | @obj p dx m ks xs ds hp hl rr =>
        have ho' : (if m = n then (List.zip ks ds).lookup f else none) = some d' := ho
        split at ho'
        · rename_i em
          subst em
          obtain ⟨w, e1, r⟩ := zip_lookup rr hl ho'
          rw [hK] at hp
          exact ⟨p, _, dx, _, w, rfl, R1.sub _ _ hp, cl, na, e1, h1 _ H1 F1 R1 (Same.refl _) r⟩
        · cases ho'
      | _ => cases ho⟩
end
end DS
set_option maxRecDepth 100000
set_option maxHeartbeats 4000000
namespace DS
open PySem PySem.Spec L2
section
variable {X : Cx} {E : XK} {a b e : Expr} {fa fb : M D} {pos : Pos}
def seqM (fa : M D) : M (List D) := fun Γ => (fa Γ).bind fun d Γ1 => match d with
  | .lst ds => .ok ds Γ1
  | .tup ds => .ok ds Γ1
  | _ => .stuck
theorem yields_list {c : RC} {F : Hp} {K : PySem.W.Frag} {p : Addr} {xs : List V} {ds : List D} (hp : F p = some (.lst xs)) (r : Reps c F xs ds) : Yields c F (Itl K p) ds := fun F' H s1 s2 => by
  have hH : H p = some (.lst xs) := s2 _ _ (s1 _ _ hp)
  have uq : ∀ ys, SqL K H p ys → ys = xs ∨ K.lookup p ≠ none := fun ys hy => by
    rcases hy with (h | ⟨o, h⟩) | ⟨o, its, n, h, _⟩
    · rw [hH] at h; cases h; exact .inl rfl
    · rw [hH] at h; cases h
    · exact .inr (by rw [h]; simp)
  refine ⟨⟨xs, .inl (.inl hH), by rw [Reps.length r]; exact Nat.le_refl _⟩, fun i d hd => ?_⟩
  obtain ⟨v, hv, rv⟩ := r.get hd
  refine ⟨⟨xs, v, .inl (.inl hH), hv⟩, fun x H' hy => ?_⟩
  obtain ⟨e, k⟩ := hy
  subst e
  have q := k xs (.inl (.inl hH))
  rw [hv] at q
  cases q
  exact .inl ⟨rfl, rv.mono s1⟩
theorem yields_tup {c : RC} {F : Hp} {K : PySem.W.Frag} {p : Addr} {xs : List V} {ds : List D} (hp : F p = some (.tup xs)) (r : Reps c F xs ds) : Yields c F (Itt K p) ds := fun F' H s1 s2 => by
  have hH : H p = some (.tup xs) := s2 _ _ (s1 _ _ hp)
  refine ⟨⟨xs, .inl (.inl hH), by rw [Reps.length r]; exact Nat.le_refl _⟩, fun i d hd => ?_⟩
  obtain ⟨v, hv, rv⟩ := r.get hd
  refine ⟨⟨xs, v, .inl (.inl hH), hv⟩, fun x H' hy => ?_⟩
  obtain ⟨e, k⟩ := hy
  subst e
  have q := k xs (.inl (.inl hH))
  rw [hv] at q
  cases q
  exact .inl ⟨rfl, rv.mono s1⟩
theorem si_seq {tg l : Expr} (hl : PE X l (tOf X.K E fa)) : PI X tg l (iOf X.K E (seqM fa)) := by
  refine ⟨fun pins s σ H Rr I h => ?_⟩
  obtain ⟨c, g, F, Γ, hK, R, h⟩ := h
  cases hr : fa Γ with
  | stuck => unfold seqM at h; rw [hr] at h; exact h.elim
  | exc n S =>
    unfold seqM at h
    rw [hr] at h
    exact (pi_list hl).run pins s σ H Rr I ⟨c, g, F, Γ, hK, R, by rw [hr]; exact h⟩
  | ok d Γ1 =>
    unfold seqM at h
    rw [hr] at h
    cases d with
    | lst ds =>
      refine (pi_list hl).run pins s σ H Rr I ⟨c, g, F, Γ, hK, R, ?_⟩
      rw [hr]
      intro v H1 F1 R1 s1 r1
      cases r1 with
      | @lst p xs _ hp r => exact ⟨p, rfl, ⟨xs, R1.sqL hp⟩, h _ H1 F1 R1 s1 (yields_list hp r)⟩
    | tup ds =>
      refine (pi_tup hl).run pins s σ H Rr I ⟨c, g, F, Γ, hK, R, ?_⟩
      rw [hr]
      intro v H1 F1 R1 s1 r1
      cases r1 with
      | @tup p xs _ hp r => exact ⟨p, rfl, ⟨xs, R1.sqT hp⟩, h _ H1 F1 R1 s1 (yields_tup hp r)⟩
    | _ => exact h.elim
/-- range(n), range(a, b) -/
def rangeL (lo hi : Int) : List D := (List.range (hi - lo).toNat).map fun i : Nat => D.int (lo + i)
def okR (i : Int) : Bool := decide (-(2 ^ 62) ≤ i ∧ i < 2 ^ 62)
def range1M (fa : M (List D)) : M (List D) := fun Γ => (fa Γ).bind fun ds Γ1 => match ds with
  | [.int j] => if okR j then .ok (rangeL 0 j) Γ1 else .stuck
  | _ => .stuck
def range2M (fa : M (List D)) : M (List D) := fun Γ => (fa Γ).bind fun ds Γ1 => match ds with
  | [.int i, .int j] => if okR i && okR j then .ok (rangeL i j) Γ1 else .stuck
  | _ => .stuck
theorem yields_range {c : RC} {F : Hp} {lo hi : Int} {n : Nat} (hn : n = (hi - lo).toNat) : Yields c F (Itr lo n) (rangeL lo hi) := fun F' H s1 s2 => by
  have hl : (rangeL lo hi).length = n := by unfold rangeL; rw [List.length_map, List.length_range, hn]
  refine ⟨by rw [hl]; exact Nat.le_refl n, fun i d hd => ?_⟩
  have hlt : i < n := by rw [← hl]; exact (List.getElem?_eq_some_iff.mp hd).1
  unfold rangeL at hd
  rw [List.getElem?_map, List.getElem?_range (by omega)] at hd
  cases hd
  refine ⟨hlt, fun x H' hy => ?_⟩
  obtain ⟨e1, e2⟩ := hy
  subst e1 e2
  exact .inl ⟨rfl, .int _⟩
theorem okR_iff {i : Int} (h : okR i = true) : -(2 ^ 62) ≤ i ∧ i < 2 ^ 62 := of_decide_eq_true h
theorem PI_range1 {tg a : Expr} {f : M (List D)} {p : Pos} (hg : Gl X "range") (hm : X.mg "range" = none) (ha : PA X [a] (aOf X.K E f)) (hs : starEach [a] X.env = [(false, eval a X.env)] := by rfl) : PI X tg (.Call (.Name "range" p) [a] [] pos) (iOf X.K E (range1M f)) :=
  PI_imp (pi_range1 hg hm ha hs) fun σ H Rr ⟨c, g, F, Γ, hK, R, h⟩ => ⟨c, g, F, Γ, hK, R, (Post.split (rel2 := relA c) h).imp fun vs H1 ⟨F1, Γ1, ds, R1, s1, r1, h1⟩ => by
    split at h1
    · rename_i j
      split at h1
      · rename_i hj
        obtain ⟨k1, k2⟩ := okR_iff hj
        cases r1 with
        | cons r1 r2 =>
          cases r1
          cases r2
          refine ⟨j, rfl, k1, k2, h1 _ H1 F1 R1 (Same.refl _) (yields_range (by omega))⟩
      · exact h1.elim
    · exact h1.elim⟩
theorem PI_range2 {tg a b : Expr} {f : M (List D)} {p : Pos} (hg : Gl X "range") (hm : X.mg "range" = none) (ha : PA X [a, b] (aOf X.K E f)) (hs : starEach [a, b] X.env = [(false, eval a X.env), (false, eval b X.env)] := by rfl) (hs2 : starEach [b] X.env = [(false, eval b X.env)] := by rfl) :
    PI X tg (.Call (.Name "range" p) [a, b] [] pos) (iOf X.K E (range2M f)) :=
  PI_imp (pi_range2 hg hm ha hs hs2) fun σ H Rr ⟨c, g, F, Γ, hK, R, h⟩ => ⟨c, g, F, Γ, hK, R, (Post.split (rel2 := relA c) h).imp fun vs H1 ⟨F1, Γ1, ds, R1, s1, r1, h1⟩ => by
    split at h1
    · rename_i i j
      split at h1
      · rename_i hj
        rw [Bool.and_eq_true] at hj
        obtain ⟨k1, k2⟩ := okR_iff hj.1
        obtain ⟨k3, k4⟩ := okR_iff hj.2
        cases r1 with
        | cons r1 r2 =>
          cases r2 with
          | cons r2 r3 =>
            cases r1
            cases r2
            cases r3
            exact ⟨i, j, rfl, ⟨k1, k2, k3, k4⟩, h1 _ H1 F1 R1 (Same.refl _) (yields_range rfl)⟩
      · exact h1.elim
    · exact h1.elim⟩
open Classical in
noncomputable def gh2 (g : Gh) (F H : Hp) (σ : St) (Γ : G) : Gh := ⟨fun b => if Owned σ Γ b then none else H b, F, g.Hb, g.me⟩
open Classical in
theorem gh2_no {c : RC} {g : Gh} {F H : Hp} {σ : St} {Γ : G} (R : Rel c g F H σ Γ) {p : Addr} (h : Owned σ Γ p) : (gh2 g F H σ Γ).no p := fun o q => by
  obtain ⟨_, _, z, _, _⟩ := R.owned h
  obtain ⟨q, hn⟩ := q
  rcases q with q | q
  · have q' : (if Owned σ Γ p then none else H p) = some o := q
    rw [if_pos h] at q'
    cases q'
  · exact z o ⟨.inr q, hn⟩
open Classical in
theorem Rel.reghost {c : RC} {g : Gh} {F H : Hp} {σ : St} {Γ : G} (R : Rel c g F H σ Γ) : Rel c (gh2 g F H σ Γ) F H σ Γ := by
  refine ⟨R.sub, Same.refl F, fun b o e h1 h2 => ?_, fun b o _ _ h => h, R.len, fun i s e => ?_, R.dis, R.dst, R.tab, R.nt⟩
  · obtain ⟨e, hn⟩ := e
    rcases e with e | e
    · have e' : (if Owned σ Γ b then none else H b) = some o := e
      split at e'
      · cases e'
      · exact e'
    · exact R.fra b o ⟨.inr e, hn⟩ h1 h2
  · obtain ⟨o, eo, q⟩ := R.slot i s e
    refine ⟨o, eo, ?_⟩
    cases s with
    | un => trivial
    | val d => exact q
    | own ds =>
      obtain ⟨p, vs, e1, h1, r, h2, h3, h4, h5⟩ := q
      exact ⟨p, vs, e1, h1, r, h2, gh2_no R ⟨i, _, e, rfl, by rw [eo, e1]⟩, h4, h5⟩
    | ownd kvs =>
      obtain ⟨p, ks, vs, ds, e1, h1, l, r, ek, h2, h3, h4, h5⟩ := q
      exact ⟨p, ks, vs, ds, e1, h1, l, r, ek, h2, gh2_no R ⟨i, _, e, rfl, by rw [eo, e1]⟩, h4, h5⟩
    | owno n fs =>
      obtain ⟨p, dx, ks, vs, ds, e1, hm, h1, l, r, ek, h2, h3, h4, h5⟩ := q
      exact ⟨p, dx, ks, vs, ds, e1, hm, h1, l, r, ek, h2, gh2_no R ⟨i, _, e, rfl, by rw [eo, e1]⟩, h4, h5⟩
    | bor ds => exact q
theorem Rel.unghost {c : RC} {g : Gh} {F F' H H' : Hp} {σ σ' : St} {Γ Γ' : G} (R : Rel c g F H σ Γ) (R' : Rel c (gh2 g F H σ Γ) F' H' σ' Γ') (s : Same F F') : Rel c g F' H' σ' Γ' := by
  have old : ∀ b o, g.H0 b = some o → NT o → b ≠ c.sa → b ≠ c.sg → (gh2 g F H σ Γ).H0 b = some o := fun b o e hn h1 h2 => by
    have no : ¬ Owned σ Γ b := fun w => by
      obtain ⟨_, _, z, _, _⟩ := R.owned w
      exact z o ⟨.inl e, hn⟩
    exact (if_neg no).trans (R.fra b o ⟨.inl e, hn⟩ h1 h2)
  obtain ⟨sc', d1, d2, d3, d4, d5, d6⟩ := id R'.dst
  have new : ∀ p, (gh2 g F H σ Γ).no p → p ≠ c.sa → p ≠ c.sg → g.no p := fun p e h1 h2 o q => by
    obtain ⟨q, hn⟩ := q
    rcases q with q | q
    · exact e o ⟨.inl (old p o q hn h1 h2), hn⟩
    · exact e o ⟨.inr q, hn⟩
  refine ⟨R'.sub, R.subF.trans s, fun b o e h1 h2 => ?_, fun b o e hn h0 => ?_, R'.len, fun i t e => ?_, R'.dis, R'.dst, R'.tab, R'.nt⟩
  · obtain ⟨e, hn⟩ := e
    rcases e with e | e
    · exact R'.fra b o ⟨.inl (old b o e hn h1 h2), hn⟩ h1 h2
    · exact R'.fra b o ⟨.inr e, hn⟩ h1 h2
  · by_cases h1 : b = c.sa
    · rw [h1]; exact d4
    · by_cases h2 : b = c.sg
      · rw [h2]; exact d5
      · exact R'.fz b o (old b o e hn h1 h2) hn (R.fz b o e hn h0)
  · obtain ⟨o, eo, q⟩ := R'.slot i t e
    refine ⟨o, eo, ?_⟩
    cases t with
    | un => trivial
    | val d => exact q
    | own ds =>
      obtain ⟨p, vs, e1, h1, r, h2, h3, h4, h5⟩ := q
      exact ⟨p, vs, e1, h1, r, h2, new p h3 h4 h5, h4, h5⟩
    | ownd kvs =>
      obtain ⟨p, ks, vs, ds, e1, h1, l, r, ek, h2, h3, h4, h5⟩ := q
      exact ⟨p, ks, vs, ds, e1, h1, l, r, ek, h2, new p h3 h4 h5, h4, h5⟩
    | owno n fs =>
      obtain ⟨p, dx, ks, vs, ds, e1, hm, h1, l, r, ek, h2, h3, h4, h5⟩ := q
      exact ⟨p, dx, ks, vs, ds, e1, hm, h1, l, r, ek, h2, new p h3 h4 h5, h4, h5⟩
    | bor ds => exact q
/-- what is known of an address that no slot owns -/
theorem gh2_at {g : Gh} {F H : Hp} {σ : St} {Γ : G} {p : Addr} {o : HO} (h : H p = some o) (no : ¬ Owned σ Γ p) : (gh2 g F H σ Γ).H0 p = some o := (if_neg no).trans h
end
section
variable {X : Cx} {E : XK} {a b e : Expr} {fa fb : M D} {pos : Pos}
def wipeE (env : List Slot) : List Nat → List Slot
  | [] => env
  | v :: vs => (wipeE env vs).set v .un
def wipeG (vs : List Nat) (Γ : G) : G := { Γ with env := wipeE Γ.env vs }
theorem wipe_set {σ : St} {x : Option V} : ∀ {vs : List Nat} {i : Nat}, i ∈ vs → wipe (σ.set i x) vs = wipe σ vs
  | [], _, h => by cases h
  | v :: vs, i, h => by
    show (wipe (σ.set i x) vs).set v none = (wipe σ vs).set v none
    by_cases hi : i ∈ vs
    · rw [wipe_set hi]
    · have hv : i = v := by
        rcases List.mem_cons.mp h with e | e
        · exact e
        · exact absurd e hi
      subst hv
      have comm : ∀ (ws : List Nat) (τ : St), i ∉ ws → wipe (τ.set i x) ws = (wipe τ ws).set i x := by
        intro ws
        induction ws with
        | nil => intro τ _; rfl
        | cons w ws ih =>
          intro τ hw
          have h1 : i ≠ w := fun z => hw (z ▸ List.mem_cons_self)
          have h2 : i ∉ ws := fun z => hw (List.mem_cons_of_mem _ z)
          show (wipe (τ.set i x) ws).set w none = ((wipe τ ws).set w none).set i x
          rw [ih τ h2, List.set_comm _ _ h1]
      rw [comm vs σ hi, List.set_set]
theorem wipe_wipe {σ : St} : ∀ {vs : List Nat}, wipe (wipe σ vs) vs = wipe σ vs := by
  intro vs
  have get : ∀ (ws : List Nat) (τ : St) (j : Nat), (wipe τ ws)[j]? = if j ∈ ws ∧ j < τ.length then some none else τ[j]? := by
    intro ws
    induction ws with
    | nil => intro τ j; simp [wipe]
    | cons w ws ih =>
      intro τ j
      show ((wipe τ ws).set w none)[j]? = _
      rw [List.getElem?_set, wipe_length, ih τ j]
      by_cases hw : w = j
      · subst hw
        by_cases hl : w < τ.length
        · simp [hl]
        · simp [hl]
      · have hw' : j ≠ w := fun z => hw z.symm
        simp [hw, hw']
  apply List.ext_getElem?
  intro j
  rw [get vs (wipe σ vs) j, get vs σ j, wipe_length]
  split
  · rfl
  · rfl
theorem wipeE_get (env : List Slot) : ∀ (vs : List Nat) (j : Nat), (wipeE env vs)[j]? = if j ∈ vs ∧ j < env.length then some .un else env[j]? := by
  have len : ∀ vs : List Nat, (wipeE env vs).length = env.length := by
    intro vs
    induction vs with
    | nil => rfl
    | cons w ws ih => show ((wipeE env ws).set w .un).length = _; rw [List.length_set, ih]
  intro vs
  induction vs with
  | nil => intro j; simp [wipeE]
  | cons w ws ih =>
    intro j
    show ((wipeE env ws).set w .un)[j]? = _
    rw [List.getElem?_set, len ws, ih j]
    by_cases hw : w = j
    · subst hw
      by_cases hl : w < env.length
      · simp [hl]
      · simp [hl]
    · have hw' : j ≠ w := fun z => hw z.symm
      simp [hw, hw']
theorem wipeE_len (env : List Slot) : ∀ vs : List Nat, (wipeE env vs).length = env.length
  | [] => rfl
  | w :: ws => by show ((wipeE env ws).set w .un).length = _; rw [List.length_set, wipeE_len env ws]
theorem wipe_get : ∀ (ws : List Nat) (τ : St) (j : Nat), (wipe τ ws)[j]? = if j ∈ ws ∧ j < τ.length then some none else τ[j]?
  | [], τ, j => by simp [wipe]
  | w :: ws, τ, j => by
    show ((wipe τ ws).set w none)[j]? = _
    rw [List.getElem?_set, wipe_length, wipe_get ws τ j]
    by_cases hw : w = j
    · subst hw
      by_cases hl : w < τ.length
      · simp [hl]
      · simp [hl]
    · have hw' : j ≠ w := fun z => hw z.symm
      simp [hw, hw']
/-- from σ to the wiped slots, and between states that part at the wiped slots alone -/
theorem Rel.wipe {c : RC} {g : Gh} {F H : Hp} {σ τ : St} {Γ : G} (vs : List Nat) (R : Rel c g F H σ Γ) (h : wipe τ vs = wipe σ vs) (hl : τ.length = σ.length) : Rel c g F H τ (wipeG vs Γ) := by
  have at_ : ∀ (j : Nat) (t : Slot), (wipeE Γ.env vs)[j]? = some t → t = .un ∨ (Γ.env[j]? = some t ∧ τ[j]? = σ[j]?) := fun j t e => by
    rw [wipeE_get] at e
    split at e
    · cases e; exact .inl rfl
    · rename_i hn
      refine .inr ⟨e, ?_⟩
      have hj : j < Γ.env.length := (List.getElem?_eq_some_iff.mp e).1
      have hv : j ∉ vs := fun z => hn ⟨z, hj⟩
      have e1 := wipe_get vs τ j
      have e2 := wipe_get vs σ j
      rw [if_neg (fun z => hv z.1)] at e1 e2
      rw [← e1, ← e2, h]
  refine ⟨R.sub, R.subF, R.fra, R.fz, ?_, fun j t e => ?_, fun j l p t u hjl e1 e2 h1 h2 h3 h4 => ?_, R.dst, R.tab, R.nt⟩
  · show τ.length = (wipeE Γ.env vs).length
    rw [wipeE_len, hl, R.len]
  · have hj : j < (wipeE Γ.env vs).length := (List.getElem?_eq_some_iff.mp e).1
    rcases at_ j t e with rfl | ⟨e', q⟩
    · rw [wipeE_len] at hj
      exact ⟨τ[j]'(by rw [hl, R.len]; exact hj), by simp, trivial⟩
    · obtain ⟨o, eo, r⟩ := R.slot j t e'
      exact ⟨o, by rw [q]; exact eo, r⟩
  · rcases at_ j t e1 with rfl | ⟨e1', q1⟩
    · cases h1
    · rcases at_ l u e2 with rfl | ⟨e2', q2⟩
      · cases h2
      · rw [q1] at h3
        rw [q2] at h4
        exact R.dis j l p t u hjl e1' e2' h1 h2 h3 h4
theorem wipeG_idem (vs : List Nat) (Γ : G) : wipeG vs (wipeG vs Γ) = wipeG vs Γ := by
  unfold wipeG
  congr 1
  apply List.ext_getElem?
  intro j
  rw [wipeE_get, wipeE_get, wipeE_len]
  split <;> rfl
/-- a target that stores the wiped slots alone -/
def gOfC (K : PySem.W.Frag) (vs : List Nat) (tg : TM) : TG := fun v σ H Q => ∃ c g F Γ d, c.K = K ∧ Rel c g F H σ Γ ∧ Rep c F v d ∧ ∃ Γ', tg d Γ = some Γ' ∧ ∀ σ' H' F', Rel c g F' H' σ' Γ' → Same F F' → wipe σ' vs = wipe σ vs → σ'.length = σ.length → Q σ' H'
def gsOfC (K : PySem.W.Frag) (vs : List Nat) (tg : TMs) : TGs := fun ws σ H Q => ∃ c g F Γ ds, c.K = K ∧ Rel c g F H σ Γ ∧ Reps c F ws ds ∧ ∃ Γ', tg ds Γ = some Γ' ∧ ∀ σ' H' F', Rel c g F' H' σ' Γ' → Same F F' → wipe σ' vs = wipe σ vs → σ'.length = σ.length → Q σ' H'
theorem sgc_name {vs : List Nat} {i : Nat} {x : Str} (hv : i ∈ vs) (hN : X.N.Nodup) (hi : X.N[i]? = some x) (hx : Loc X.env.scope x) (hf : X.fn x = true ∨ X.env.scope.names.lookup x = some .local := by first | exact .inl rfl | exact .inr rfl | assumption) : PG X (.Name x pos) (gOfC X.K vs (tgN i)) :=
  PG_imp (pg_name hN hi hx hf) fun v σ H Q ⟨c, g, F, Γ, d, hK, R, r, Γ', e, q⟩ => by
    cases e
    exact q _ H F (R.put (s := .val d) ⟨v, rfl, r⟩ fun z => Bool.noConfusion z) (Same.refl _) (wipe_set hv) (by simp)
theorem sgsc_nil {vs : List Nat} : PGs X [] (gsOfC X.K vs tgNil) := PGs_imp pgs_nil fun v σ H Q ⟨c, g, F, Γ, d, hK, R, r, Γ', e, q⟩ => by
  cases d with
  | nil => cases e; exact ⟨r.nil_iff, q σ H F R (Same.refl _) rfl rfl⟩
  | cons _ _ => cases e
theorem sgsc_cons {vs : List Nat} {e : Expr} {es : List Expr} {t : TM} {u : TMs} (h1 : PG X e (gOfC X.K vs t)) (h2 : PGs X es (gsOfC X.K vs u)) (hs : (assignEach (e :: es) X.env).map (·.2) = assign e X.env :: (assignEach es X.env).map (·.2) := by rfl) :
    PGs X (e :: es) (gsOfC X.K vs (tgCons t u)) := PGs_imp (pgs_cons h1 h2 hs) fun ws σ H Q ⟨c, g, F, Γ, ds, hK, R, r, Γ', e, q⟩ => by
  cases r with
  | nil => cases e
  | @cons v ws d ds r1 r2 =>
    refine ⟨v, ws, rfl, c, g, F, Γ, d, hK, R, r1, ?_⟩
    have e' : (t d Γ).bind (fun Γ1 => u ds Γ1) = some Γ' := e
    cases hd : t d Γ with
    | none => rw [hd] at e'; cases e'
    | some Γ1 =>
      rw [hd] at e'
      exact ⟨Γ1, rfl, fun σ1 H1 F1 R1 s1 w1 l1 => ⟨c, g, F1, Γ1, ds, hK, R1, Reps.mono s1 r2, Γ', e', fun σ' H' F' R' s' w' l' => q σ' H' F' R' (s1.trans s') (w'.trans w1) (l'.trans l1)⟩⟩
theorem sgc_tup {vs : List Nat} {es : List Expr} {k : Nat} {u : TMs} {n : Nat} (hc : X.calm = true) (h : PGs X es (gsOfC X.K vs u)) (hn : (assignEach es X.env).length = n := by rfl) (hst : (assignEach es X.env).findIdx? (·.1) = none := by rfl) : PG X (.Tuple es k pos) (gOfC X.K vs (tgT n u)) :=
  PG_imp (pg_tup hc h hn hst) fun v σ H Q ⟨c, g, F, Γ, d, hK, R, r, Γ', e, q⟩ => by
    cases r with
    | @tup p xs ds ha hr =>
      have e' : (if ds.length = n then u ds Γ else none) = some Γ' := e
      split at e'
      · rename_i hl
        exact ⟨p, xs, rfl, .inl (.inl (R.sub _ _ ha)), by rw [Reps.length hr]; exact hl, c, g, F, Γ, ds, hK, R, hr, Γ', e', q⟩
      · cases e'
    | _ => cases e
/-- no exception leaves a comprehension -/
def nox {α : Type} : Res α → Res α
  | .exc _ _ => .stuck
  | r => r
def lcS (vs : List Nat) (tg : TM) (tt : M Bool) (te : M D) : List D → List D → M (List D)
  | [], acc, Γ => .ok acc Γ
  | d :: r, acc, Γ => match tg d Γ with
    | none => .stuck
    | some Γ1 => (nox (tt Γ1)).bind fun k Γ2 => if k then (nox (te Γ2)).bind fun y Γ3 => if acc.length < 16777216 then lcS vs tg tt te r (acc ++ [y]) (wipeG vs Γ3) else .stuck
      else lcS vs tg tt te r acc (wipeG vs Γ2)
def lcM (vs : List Nat) (fi : M (List D)) (tg : TM) (tt : M Bool) (te : M D) : M (List D) := fun Γ => (fi Γ).bind fun ds Γ1 => lcS vs tg tt te ds [] (wipeG vs Γ1)
abbrev EN : XK := fun _ _ _ => False
theorem lc_to {vs : List Nat} {wi : TI} {fi : M (List D)} {tg : TM} {tt : M Bool} {te : M D} {σ : St} {H : Hp} {Q : VK} (h : lOf X.K E (lcM vs fi tg tt te) σ H Q) (hw : ∀ R, iOf X.K E fi σ H R → wi σ H R) : tLc wi (gOfC X.K vs tg) (bOf X.K EN tt) (tOf X.K EN te) vs σ H Q := by
  obtain ⟨c, g, F, Γ, hK, R, h⟩ := h
  refine hw _ ⟨c, g, F, Γ, hK, R, (Post.split (rel2 := relI c) h).imp fun J H1 ⟨F1, Γ1, ds, R1, s1, r1, h1⟩ => ?_⟩
  intro p hp
  have fresh := R1.fresh hp
  -- what is kept between the turns
  refine ⟨fun i m H => m = ds.length - i ∧ i ≤ ds.length ∧ ∃ F' Γ' acc ws, Rel c g F' H (wipe σ vs) Γ' ∧ wipeG vs Γ' = Γ' ∧ Same F1 F' ∧ H p = some (.lst ws) ∧ Reps c F' ws acc ∧ F' p = none ∧ g.no p ∧ p ≠ c.sa ∧ p ≠ c.sg ∧ ¬ Owned (wipe σ vs) Γ' p ∧ ws.length ≤ 16777216 ∧
      Post c g σ E (relL c g σ) Q F' (lcS vs tg tt te (ds.drop i) acc Γ'), ?_, ?_⟩
  · have R2 := (R1.lay0 (o := .lst []) hp).wipe vs (τ := wipe σ vs) wipe_wipe (wipe_length σ vs)
    refine ⟨_, rfl, Nat.zero_le _, F1, wipeG vs Γ1, [], [], R2, wipeG_idem vs Γ1, Same.refl _, upd_same, .nil, fresh.2.2.2.1, fresh.2.2.1, fresh.1, fresh.2.1, fun o => ?_, Nat.zero_le _, h1⟩
    have R3 := R1.wipe vs (τ := wipe σ vs) wipe_wipe (wipe_length σ vs)
    obtain ⟨⟨u, hu, _⟩, _⟩ := R3.owned o
    rw [hp] at hu; cases hu
  · rintro i m H2 ⟨rfl, hi, F2, Γ2, acc, ws, R2, w2, s2, hp2, ra, n4, n3, n1, n2, n5, hz, h2⟩
    obtain ⟨y1, y2⟩ := r1 F2 H2 s2 R2.sub
    by_cases hlt : i < ds.length
    · obtain ⟨go, yl⟩ := y2 i ds[i] (by simp [hlt])
      refine .inr ⟨go, fun H' => ∃ F' Γ' acc ws, Rel c g F' H' (wipe σ vs) Γ' ∧ wipeG vs Γ' = Γ' ∧ Same F1 F' ∧ H' p = some (.lst ws) ∧ Reps c F' ws acc ∧ F' p = none ∧ g.no p ∧ p ≠ c.sa ∧ p ≠ c.sg ∧ ¬ Owned (wipe σ vs) Γ' p ∧ ws.length ≤ 16777216 ∧
        Post c g σ E (relL c g σ) Q F' (lcS vs tg tt te (ds.drop (i + 1)) acc Γ'), fun H' q => ⟨_, by omega, rfl, hlt, q⟩, fun x H' hy => ?_⟩
      rw [List.drop_eq_getElem_cons hlt] at h2
      have h2' : Post c g σ E (relL c g σ) Q F2 (match tg ds[i] Γ2 with
        | none => Res.stuck
        | some Γ1 => (nox (tt Γ1)).bind fun k Γ2 => if k then (nox (te Γ2)).bind fun y Γ3 => if acc.length < 16777216 then lcS vs tg tt te (ds.drop (i + 1)) (acc ++ [y]) (wipeG vs Γ3) else .stuck
          else lcS vs tg tt te (ds.drop (i + 1)) acc (wipeG vs Γ2)) := h2
      -- the item
      obtain ⟨F3, R3, s3, r3, hp3, n43⟩ : ∃ F3, Rel c g F3 H' (wipe σ vs) Γ2 ∧ Same F2 F3 ∧ Rep c F3 x ds[i] ∧ H' p = some (.lst ws) ∧ F3 p = none := by
        rcases yl x H' hy with ⟨rfl, r⟩ | ⟨T, o, hT, hno, rfl, r⟩
        · exact ⟨F2, R2, Same.refl _, r, hp2, n4⟩
        · have hpT : p ≠ T := ne_of_none hp2 hT
          exact ⟨_, R2.lay hT hno, same_upd (R2.fresh hT).2.2.2.1, r, by rw [upd_ne hpT]; exact hp2, by rw [upd_ne hpT]; exact n4⟩
      -- under a ghost that keeps the new list
      have G3 := R3.reghost
      have kp : ∀ {F4 H4 : Hp} {σ4 : St} {Γ4 : G}, Rel c (gh2 g F3 H' (wipe σ vs) Γ2) F4 H4 σ4 Γ4 → H4 p = some (.lst ws) ∧ F4 p = none := fun {F4 H4 σ4 Γ4} R4 =>
        ⟨R4.fra p _ ⟨.inl (gh2_at hp3 n5), plo_lst.1⟩ n1 n2, R4.fz p _ (gh2_at hp3 n5) plo_lst.1 n43⟩
      cases ht : tg ds[i] Γ2 with
      | none => rw [ht] at h2'; exact h2'.elim
      | some Γ3 =>
        rw [ht] at h2'
        refine ⟨c, gh2 g F3 H' (wipe σ vs) Γ2, F3, Γ2, ds[i], hK, G3, r3, Γ3, ht, fun σ4 H4 F4 R4 s4 w4 l4 => ?_⟩
        have w4' : wipe σ4 vs = wipe σ vs := w4.trans wipe_wipe
        refine ⟨w4', ?_⟩
        have l4' : σ.length = σ4.length := by rw [l4, wipe_length]
        have h4 := Post.mono h2' (s3.trans s4)
        refine ⟨c, _, F4, Γ3, hK, R4, ?_⟩
        -- the test
        have t1 := h4
        dsimp only at t1
        cases hr : tt Γ3 with
        | stuck => rw [hr] at t1; exact t1.elim
        | exc n S => rw [hr] at t1; exact t1.elim
        | ok k Γ5 =>
          rw [hr] at t1
          intro k' H5 F5 R5 s5 e5
          have e5 : k' = k := e5
          subst e5
          have t1 := Post.mono (show Post c g σ E (relL c g σ) Q F4 (if k' then (nox (te Γ5)).bind fun y Γ3 => if acc.length < 16777216 then lcS vs tg tt te (ds.drop (i + 1)) (acc ++ [y]) (wipeG vs Γ3) else .stuck
            else lcS vs tg tt te (ds.drop (i + 1)) acc (wipeG vs Γ5)) from t1) s5
          have back : ∀ {F6 H6 : Hp} {Γ6 : G}, Rel c (gh2 g F3 H' (wipe σ vs) Γ2) F6 H6 σ4 Γ6 → Same F3 F6 → Rel c g F6 H6 (wipe σ vs) (wipeG vs Γ6) := fun {F6 H6 Γ6} R6 s6 =>
            (R3.unghost R6 s6).wipe vs (by rw [wipe_wipe, w4']) (by rw [wipe_length, l4'])
          have no6 : ∀ {F6 H6 : Hp} {Γ6 : G}, Rel c (gh2 g F3 H' (wipe σ vs) Γ2) F6 H6 σ4 Γ6 → ¬ Owned (wipe σ vs) (wipeG vs Γ6) p := fun {F6 H6 Γ6} R6 o => by
            have R7 := R6.wipe vs (τ := wipe σ vs) (by rw [wipe_wipe, w4']) (by rw [wipe_length, l4'])
            obtain ⟨_, _, z, _, _⟩ := R7.owned o
            exact z _ ⟨.inl (gh2_at hp3 n5), plo_lst.1⟩
          cases k' with
          | false =>
            rw [if_neg Bool.false_ne_true] at t1
            rw [if_neg Bool.false_ne_true]
            obtain ⟨q1, q2⟩ := kp R5
            exact ⟨F5, wipeG vs Γ5, acc, ws, back R5 (s4.trans s5), wipeG_idem vs Γ5, s2.trans (s3.trans (s4.trans s5)), q1, ra.mono (s3.trans (s4.trans s5)), q2, n3, n1, n2, no6 R5, hz, t1⟩
          | true =>
            rw [if_pos rfl] at t1
            rw [if_pos rfl]
            refine ⟨c, _, F5, Γ5, hK, R5, ?_⟩
            cases he : te Γ5 with
            | stuck => rw [he] at t1; exact t1.elim
            | exc n S => rw [he] at t1; exact t1.elim
            | ok y Γ6 =>
              rw [he] at t1
              intro yv H6 F6 R6 s6 r6
              have t2 := Post.mono (show Post c g σ E (relL c g σ) Q F5 (if acc.length < 16777216 then lcS vs tg tt te (ds.drop (i + 1)) (acc ++ [y]) (wipeG vs Γ6) else .stuck) from t1) s6
              obtain ⟨q1, q2⟩ := kp R6
              have la := Reps.length ra
              split at t2
              · rename_i hacc
                have s36 : Same F3 F6 := s4.trans (s5.trans s6)
                refine ⟨ws, q1, by rw [la, ← line_ok]; exact hacc, ?_⟩
                have R7 := back R6 s36
                -- the list grows
                have R8 : Rel c g F6 (upd H6 p (.lst (ws ++ [yv]))) (wipe σ vs) (wipeG vs Γ6) := by
                  have no := no6 R6
                  have hf : ∀ b u, g.has b u → b ≠ c.sa → b ≠ c.sg → (upd H6 p (.lst (ws ++ [yv]))) b = some u := fun b u e k1 k2 => by
                    have hb : b ≠ p := fun z => by rw [z] at e; exact n3 _ e
                    rw [upd_ne hb]; exact R7.fra b u e k1 k2
                  refine ⟨fun b u e => ?_, R7.subF, hf, R7.fz, R7.len, fun j t e => ?_, R7.dis, ?_, tabs_upd R7.tab (fun v q => by rw [q1] at q; cases q; exact plo_lst), R7.nt⟩
                  · have hb : b ≠ p := fun z => by rw [z, q2] at e; cases e
                    rw [upd_ne hb]; exact R7.sub b u e
                  · obtain ⟨o, eo, r⟩ := R7.slot j t e
                    refine ⟨o, eo, r.mono hf (Same.refl F6) fun b hb e2 => ?_⟩
                    have ow : Owned (wipe σ vs) (wipeG vs Γ6) b := ⟨j, t, e, hb, by rw [eo, e2]⟩
                    have hbp : b ≠ p := fun z => no (z ▸ ow)
                    exact ⟨upd_ne hbp, (R7.owned ow).2.1⟩
                  · exact R7.dst.keep (Same.refl _) (upd_ne n1.symm) (upd_ne n2.symm) (let ⟨_, _, _, _, h, _⟩ := R7.dst; h) (let ⟨_, _, _, _, _, h, _⟩ := R7.dst; h)
                exact ⟨F6, wipeG vs Γ6, acc ++ [y], ws ++ [yv], R8, wipeG_idem vs Γ6, s2.trans (s3.trans s36), upd_same, (ra.mono (s3.trans s36)).append (.cons r6 .nil), q2, n3, n1, n2, no6 R6, by rw [List.length_append, la]; simp; omega, t2⟩
              · exact t2.elim
    · have ei : i = ds.length := by omega
      subst ei
      refine .inl ⟨y1, ?_⟩
      rw [List.drop_length] at h2
      have R3 := R2.wipe vs (τ := σ) wipe_wipe.symm (wipe_length σ vs).symm
      rw [w2] at R3
      refine h2 (.ref p) H2 F2 R3 (Same.refl _) ⟨p, ws, rfl, hp2, ra, n4, n3, n1, n2, fun o => ?_⟩
      obtain ⟨j, t, e1, e2, e3⟩ := o
      refine n5 ⟨j, t, e1, e2, ?_⟩
      have hj : j ∉ vs := fun z => by
        have e1' : (wipeG vs Γ2).env[j]? = some t := by rw [w2]; exact e1
        have e1'' : (wipeE Γ2.env vs)[j]? = some t := e1'
        rw [wipeE_get, if_pos ⟨z, (List.getElem?_eq_some_iff.mp e1).1⟩] at e1''
        cases e1''
        cases e2
      rw [wipe_get, if_neg (fun z => hj z.1)]
      exact e3
end
end DS
set_option maxRecDepth 100000
set_option maxHeartbeats 4000000
namespace DS
open PySem PySem.Spec L2
section
variable {X : Cx} {E : XK} {a b e : Expr} {fa fb : M D} {pos : Pos}
theorem sl_lc {elt tg iter : Expr} {ifs : List Expr} {scope : Scope} {own : List (Str × Nat)} {fi : M (List D)} {tgm : TM} {tt : M Bool} {te : M D} (hc : X.calm = true) (hN : X.N.Nodup) (hi : PI X tg iter (iOf X.K E fi)) (ok : BlkOk X.N X.env.scope scope own)
    (hg : ∀ (s : Shared) (H : Hp) (C : Addr) (cl : List (Str × Addr)) (fp : List Addr), PG (X.blk s H scope (compEnvC scope cl C X.env) fp) tg (gOfC X.K (own.map (·.2)) tgm))
    (ht : ∀ (s : Shared) (H : Hp) (C : Addr) (cl : List (Str × Addr)) (fp : List Addr), PTs (X.blk s H scope (compEnvC scope cl C X.env) fp) ifs (bOf X.K EN tt))
    (he : ∀ (s : Shared) (H : Hp) (C : Addr) (cl : List (Str × Addr)) (fp : List Addr), PE (X.blk s H scope (compEnvC scope cl C X.env) fp) elt (tOf X.K EN te)) (hs : ∀ x, foldedSetIterable iter X.env x = pure x := by intro _; rfl) :
    PE X (.ListComp elt [⟨tg, iter, ifs, 0⟩] scope pos) (lOf X.K E (lcM (own.map (·.2)) fi tgm tt te)) :=
  PE_imp (pe_lc hc hN hi ok hg ht he hs) fun σ H Q h => lc_to h fun R q => q
theorem PTs_imp {l : List Expr} {t t' : TT} (h : PTs X l t) (k : ∀ σ H Q, t' σ H Q → t σ H Q) : PTs X l t' := ⟨fun pins s σ H Q I q => h.run pins s σ H Q I (k _ _ _ q)⟩
theorem sts_nil : PTs X [] (bOf X.K E (retM true)) := PTs_imp pts_nil fun σ H Q ⟨c, g, F, Γ, hK, R, h⟩ => h true H F R (Same.refl F) rfl
theorem sts_one {t : M Bool} (h : PT X e (bOf X.K E t)) : PTs X [e] (bOf X.K E t) := pts_one h
theorem Rel.peek {c : RC} {g : Gh} {F H : Hp} {σ : St} {Γ : G} (R : Rel c g F H σ Γ) {i : Nat} {ds : List D} (h : peekL i Γ = some ds) : ∃ p vs, σ[i]? = some (some (.ref p)) ∧ H p = some (.lst vs) ∧ Reps c F vs ds := by
  unfold peekL at h
  split at h
  · cases h
    rename_i hi
    obtain ⟨o, eo, p, vs, e1, h1, r, _⟩ := R.slot i _ hi
    exact ⟨p, vs, by rw [eo, e1], h1, r⟩
  · cases h
    rename_i hi
    obtain ⟨o, eo, v, e1, r⟩ := R.slot i _ hi
    cases r with
    | @lst p xs _ hp rr => exact ⟨p, xs, by rw [eo, e1], R.sub _ _ hp, rr⟩
  · cases h
    rename_i hi
    obtain ⟨o, eo, p, vs, e1, _, h1, r, _⟩ := R.slot i _ hi
    exact ⟨p, vs, by rw [eo, e1], h1, r⟩
  · cases h
/-- len(x) -/
def lenP (i : Nat) : M D := fun Γ => match peekL i Γ with
  | some ds => .ok (.int ds.length) Γ
  | none => .stuck
theorem se_lenP (i : Nat) {x : Str} {p px : Pos} (hg : Gl X "len") (hm : X.mg "len" = none) (hN : X.N[i]? = some x := by rfl) (hv : Vis X.env.scope x := by first | exact Or.inl rfl | exact Or.inr (Or.inl rfl) | exact Or.inr (Or.inr rfl)) (hd : (x == ("__debug__" : Str)) = false := by decide)
    (hcd : (x == ("__classdict__" : Str)) = false := by decide) : PE X (.Call (.Name "len" p) [.Name x px] [] pos) (tOf X.K E (lenP i)) :=
  PE_imp (pe_callB call_len_seq hg hm PySem.boot_len (pa_cons (pe_var hN hv hd hcd) pa_nil)) fun σ H Q ⟨c, g, F, Γ, hK, R, h⟩ => by
    unfold lenP at h
    split at h
    · rename_i ds hp
      obtain ⟨p, vs, e1, h1, r⟩ := R.peek hp
      refine ⟨_, e1, p, vs, rfl, .inl (.inl (.inl h1)), ?_⟩
      rw [Reps.length r]
      exact h _ H F R (Same.refl F) (.int _)
    · exact h.elim
/-- x[e] -/
def ixP (i : Nat) (fb : M D) : M D := fun Γ => match peekL i Γ with
  | some _ => (fb Γ).bind fun y Γ1 => match peekL i Γ1, y with
    | some ds, .int k => liftO (atI ds k) Γ1
    | _, _ => .stuck
  | none => .stuck
theorem se_ixP (i : Nat) {x : Str} {px : Pos} (hb : PE X b (tOf X.K E fb)) (hs : PlainIx b := by exact fun _ _ => rfl) (hN : X.N[i]? = some x := by rfl) (hv : Vis X.env.scope x := by first | exact Or.inl rfl | exact Or.inr (Or.inl rfl) | exact Or.inr (Or.inr rfl)) (hd : (x == ("__debug__" : Str)) = false := by decide)
    (hcd : (x == ("__classdict__" : Str)) = false := by decide) : PE X (.Subscript (.Name x px) b pos) (tOf X.K E (ixP i fb)) :=
  PE_imp (pe_ix ix_list (pe_var hN hv hd hcd) hb hs) fun σ H Q ⟨c, g, F, Γ, hK, R, h⟩ => by
    unfold ixP at h
    split at h
    · rename_i ds0 hp0
      obtain ⟨p, vs0, e1, _, _⟩ := R.peek hp0
      refine ⟨_, e1, c, g, F, Γ, hK, R, (Post.split (rel2 := relD c) h).imp fun y H1 ⟨F1, Γ1, d, R1, s1, r1, h1⟩ => ?_⟩
      split at h1
      · rename_i ds k hp
        obtain ⟨p', vs, e2, h2, r⟩ := R1.peek hp
        rw [e1] at e2
        cases e2
        unfold liftO at h1
        cases ho : atI ds k with
        | none => rw [ho] at h1; exact h1.elim
        | some d =>
          rw [ho] at h1
          obtain ⟨w, e3, rw'⟩ := atI_rep r ho
          cases r1
          exact ⟨p, vs, k, w, rfl, rfl, .inl (.inl h2), e3, h1 _ H1 F1 R1 (Same.refl _) rw'⟩
      · exact h1.elim
    · exact h.elim
/-- x == e, x != e -/
def cmpP (op : D → D → Option D) (i : Nat) (fb : M D) : M D := fun Γ => match peekL i Γ with
  | some _ => (fb Γ).bind fun y Γ1 => match peekL i Γ1 with
    | some ds => liftO (op (.lst ds) y) Γ1
    | none => .stuck
  | none => .stuck
theorem dp_list {c : RC} {F H : Hp} {K : PySem.W.Frag} {p : Addr} {vs : List V} {ds : List D} {q : PyData} (s : Same F H) (hp : H p = some (.lst vs)) (r : Reps c F vs ds) (e : (D.lst ds).pd = some q) : Dp K H (.ref p) q := by
  have e' : (D.pds ds).map PyData.list = some q := e
  cases hq : D.pds ds with
  | none => rw [hq] at e'; cases e'
  | some ps => rw [hq] at e'; cases e'; exact .lst (.inl (.inl hp)) (dps_of s r hq)
theorem cmpP_to {r : R2} {op : D → D → Option D} {i : Nat} {σ : St} {H : Hp} {Q : VK} (h : tOf X.K E (cmpP op i fb) σ H Q)
    (hr : ∀ (c : RC) (g : Gh) (F H : Hp) (Γ : G) (p : Addr) (vs : List V) (ds : List D) (y : V) (d2 d : D), c.K = X.K → Rel c g F H σ Γ → H p = some (.lst vs) → Reps c F vs ds → Rep c F y d2 → op (.lst ds) d2 = some d → (∀ v H' F', Rel c g F' H' σ Γ → Same F F' → Rep c F' v d → Q v H') → r (.ref p) y H Q) :
    tOp r (tVar i) (tOf X.K E fb) σ H Q := by
  obtain ⟨c, g, F, Γ, hK, R, h⟩ := h
  unfold cmpP at h
  split at h
  · rename_i ds0 hp0
    obtain ⟨p, vs0, e1, _, _⟩ := R.peek hp0
    refine ⟨_, e1, c, g, F, Γ, hK, R, (Post.split (rel2 := relD c) h).imp fun y H1 ⟨F1, Γ1, d2, R1, s1, r1, h1⟩ => ?_⟩
    split at h1
    · rename_i ds hp
      obtain ⟨p', vs, e2, h2, r⟩ := R1.peek hp
      rw [e1] at e2
      cases e2
      unfold liftO at h1
      cases ho : op (.lst ds) d2 with
      | none => rw [ho] at h1; exact h1.elim
      | some d =>
        rw [ho] at h1
        exact hr c g F1 H1 Γ1 p vs ds y d2 d hK R1 h2 r r1 ho fun v H' F' R' s' r' => h1 v H' F' R' s' r'
    · exact h1.elim
  · exact h.elim
theorem te_neP (i : Nat) {x : Str} {px : Pos} (hu : X.A.units + 64 < cLine) (hb : PE X b (tOf X.K E fb)) (hN : X.N[i]? = some x := by rfl) (hv : Vis X.env.scope x := by first | exact Or.inl rfl | exact Or.inr (Or.inl rfl) | exact Or.inr (Or.inr rfl)) (hd : (x == ("__debug__" : Str)) = false := by decide)
    (hcd : (x == ("__classdict__" : Str)) = false := by decide) : PT X (.Compare (.Name x px) [.NotEq] [b] pos) (bOf X.K E (boolM (cmpP neD i fb))) :=
  PT_imp (pt_cmpR (op_neD hu) (pe_var hN hv hd hcd) hb (nomark _)) fun σ H Q h => cmpP_to (bool_to h) fun c g F H Γ p vs ds y d2 d hK R hp r r2 ho q => by
    obtain ⟨p1, p2, e1, e2, s1, s2, rfl⟩ := neD_inv ho
    exact ⟨p1, p2, dp_list R.sub hp r e1, dp_of R.sub r2 e2, s1, s2, q _ H F R (Same.refl F) (.bl _)⟩
theorem se_neP (i : Nat) {x : Str} {px : Pos} (hu : X.A.units + 64 < cLine) (hb : PE X b (tOf X.K E fb)) (hN : X.N[i]? = some x := by rfl) (hv : Vis X.env.scope x := by first | exact Or.inl rfl | exact Or.inr (Or.inl rfl) | exact Or.inr (Or.inr rfl)) (hd : (x == ("__debug__" : Str)) = false := by decide)
    (hcd : (x == ("__classdict__" : Str)) = false := by decide) : PE X (.Compare (.Name x px) [.NotEq] [b] pos) (tOf X.K E (cmpP neD i fb)) :=
  PE_imp (pe_cmpR (op_neD hu) (pe_var hN hv hd hcd) hb (nomark _)) fun σ H Q h => cmpP_to h fun c g F H Γ p vs ds y d2 d hK R hp r r2 ho q => by
    obtain ⟨p1, p2, e1, e2, s1, s2, rfl⟩ := neD_inv ho
    exact ⟨p1, p2, dp_list R.sub hp r e1, dp_of R.sub r2 e2, s1, s2, q _ H F R (Same.refl F) (.bl _)⟩
theorem te_eqP (i : Nat) {x : Str} {px : Pos} (hu : X.A.units + 64 < cLine) (hb : PE X b (tOf X.K E fb)) (hN : X.N[i]? = some x := by rfl) (hv : Vis X.env.scope x := by first | exact Or.inl rfl | exact Or.inr (Or.inl rfl) | exact Or.inr (Or.inr rfl)) (hd : (x == ("__debug__" : Str)) = false := by decide)
    (hcd : (x == ("__classdict__" : Str)) = false := by decide) : PT X (.Compare (.Name x px) [.Eq] [b] pos) (bOf X.K E (boolM (cmpP eqD i fb))) :=
  PT_imp (pt_cmpR (op_eqD hu) (pe_var hN hv hd hcd) hb (nomark _)) fun σ H Q h => cmpP_to (bool_to h) fun c g F H Γ p vs ds y d2 d hK R hp r r2 ho q => by
    obtain ⟨p1, p2, e1, e2, s1, s2, rfl⟩ := eqD_inv ho
    exact ⟨p1, p2, dp_list R.sub hp r e1, dp_of R.sub r2 e2, s1, s2, q _ H F R (Same.refl F) (.bl _)⟩
def apM (i : Nat) (fe : M D) : M D := fun Γ => match Γ.env[i]? with
  | some (.own _) => (fe Γ).bind fun d Γ1 => match Γ1.env[i]? with
    | some (.own ds) => if ds.length < 16777216 then .ok .non (setV i (.own (ds ++ [d])) Γ1) else .stuck
    | _ => .stuck
  | _ => .stuck
theorem Rel.ownAt {c : RC} {g : Gh} {F H : Hp} {σ : St} {Γ : G} (R : Rel c g F H σ Γ) {i : Nat} {ds : List D} (hi : Γ.env[i]? = some (.own ds)) :
    ∃ p vs, σ[i]? = some (some (.ref p)) ∧ H p = some (.lst vs) ∧ Reps c F vs ds ∧ ∀ ws es, Reps c F ws es → Rel c g F (upd H p (.lst ws)) σ (setV i (.own es) Γ) := by
  obtain ⟨o, eo, p, vs, e1, h1, r, h2, h3, h4, h5⟩ := R.slot i _ hi
  subst e1
  exact ⟨p, vs, eo, h1, r, fun ws es re => R.mut hi rfl rfl eo ⟨p, ws, rfl, upd_same, re, h2, h3, h4, h5⟩⟩
theorem se_append (i : Nat) {x : Str} {px pa : Pos} (hb : PE X b (tOf X.K E fb)) (hN : X.N[i]? = some x := by rfl) (hv : Vis X.env.scope x := by first | exact Or.inl rfl | exact Or.inr (Or.inl rfl) | exact Or.inr (Or.inr rfl)) (hd : (x == ("__debug__" : Str)) = false := by decide)
    (hcd : (x == ("__classdict__" : Str)) = false := by decide) (h1 : starEach [b] X.env = (false, eval b X.env) :: starEach [] X.env := by rfl) (t : TE → TA → TE) (ht : ∀ to ta, PE X (.Name x px) to → PA X [b] ta → PE X (.Call (.Attribute (.Name x px) "append" pa) [b] [] pos) (t to ta))
    (hq : ∀ to ta, t to ta = fun σ H Q => to σ H fun v H1 => tyV X.K "list" v H1 ∧ ta σ H1 fun xs H2 => rAppend v xs H2 Q) : PE X (.Call (.Attribute (.Name x px) "append" pa) [b] [] pos) (tOf X.K E (apM i fb)) :=
  PE_imp (ht _ _ (pe_var hN hv hd hcd) (pa_cons hb pa_nil h1)) fun σ H Q ⟨c, g, F, Γ, hK, R, h⟩ => by
    rw [hq]
    unfold apM at h
    split at h
    · rename_i ds0 hi0
      obtain ⟨p, vs0, e1, hp0, _, _⟩ := R.ownAt hi0
      refine ⟨_, e1, .inl ⟨rfl, _, .inl (.inl hp0)⟩, c, g, F, Γ, hK, R, (Post.split (rel2 := relD c) h).imp fun y H1 ⟨F1, Γ1, d2, R1, s1, r1, h1⟩ => ?_⟩
      split at h1
      · rename_i ds hi
        obtain ⟨p', vs, e2, hp, r, up⟩ := R1.ownAt hi
        rw [e1] at e2
        cases e2
        split at h1
        · rename_i hl
          exact ⟨p, vs, y, rfl, rfl, hp, by rw [Reps.length r, ← line_ok]; exact hl, h1 _ _ F1 (up _ _ (r.append (.cons r1 .nil))) (Same.refl _) .non⟩
        · exact h1.elim
      · exact h1.elim
    · exact h.elim
def popM (i : Nat) : M D := fun Γ => match Γ.env[i]? with
  | some (.own ds) => match ds[ds.length - 1]? with
    | some d => .ok d (setV i (.own ds.dropLast) Γ)
    | none => .stuck
  | _ => .stuck
theorem Reps.dropLast {c : RC} {F : Hp} {vs : List V} {ds : List D} (r : Reps c F vs ds) : Reps c F vs.dropLast ds.dropLast := by
  rw [List.dropLast_eq_take, List.dropLast_eq_take, Reps.length r]
  exact r.take _
theorem se_pop (i : Nat) {x : Str} {px pa : Pos} (hN : X.N[i]? = some x := by rfl) (hv : Vis X.env.scope x := by first | exact Or.inl rfl | exact Or.inr (Or.inl rfl) | exact Or.inr (Or.inr rfl)) (hd : (x == ("__debug__" : Str)) = false := by decide)
    (hcd : (x == ("__classdict__" : Str)) = false := by decide) (t : TE → TE) (ht : ∀ to, PE X (.Name x px) to → PE X (.Call (.Attribute (.Name x px) "pop" pa) [] [] pos) (t to))
    (hq : ∀ to, t to = fun σ H Q => to σ H fun v H1 => tyV X.K "list" v H1 ∧ rPop v [] H1 Q) : PE X (.Call (.Attribute (.Name x px) "pop" pa) [] [] pos) (tOf X.K E (popM i)) :=
  PE_imp (ht _ (pe_var hN hv hd hcd)) fun σ H Q ⟨c, g, F, Γ, hK, R, h⟩ => by
    rw [hq]
    unfold popM at h
    split at h
    · rename_i ds hi
      obtain ⟨p, vs, e1, hp, r, up⟩ := R.ownAt hi
      split at h
      · rename_i d hd
        obtain ⟨v, hv, rv⟩ := r.get hd
        rw [← Reps.length r] at hv
        exact ⟨_, e1, .inl ⟨rfl, _, .inl (.inl hp)⟩, p, vs, v, rfl, rfl, hp, hv, h _ _ F (up _ _ r.dropLast) (Same.refl _) rv⟩
      · exact h.elim
    · exact h.elim
def popAtM (i : Nat) (fb : M D) : M D := fun Γ => match Γ.env[i]? with
  | some (.own _) => (fb Γ).bind fun y Γ1 => match Γ1.env[i]?, y with
    | some (.own ds), .int k => if 0 ≤ k ∧ k < 2 ^ 63 then match ds[k.toNat]? with
      | some d => .ok d (setV i (.own (ds.eraseIdx k.toNat)) Γ1)
      | none => .stuck
      else .stuck
    | _, _ => .stuck
  | _ => .stuck
theorem se_popAt (i : Nat) {x : Str} {px pa : Pos} (hb : PE X b (tOf X.K E fb)) (hN : X.N[i]? = some x := by rfl) (hv : Vis X.env.scope x := by first | exact Or.inl rfl | exact Or.inr (Or.inl rfl) | exact Or.inr (Or.inr rfl)) (hd : (x == ("__debug__" : Str)) = false := by decide)
    (hcd : (x == ("__classdict__" : Str)) = false := by decide) (h1 : starEach [b] X.env = (false, eval b X.env) :: starEach [] X.env := by rfl) (t : TE → TA → TE) (ht : ∀ to ta, PE X (.Name x px) to → PA X [b] ta → PE X (.Call (.Attribute (.Name x px) "pop" pa) [b] [] pos) (t to ta))
    (hq : ∀ to ta, t to ta = fun σ H Q => to σ H fun v H1 => tyV X.K "list" v H1 ∧ ta σ H1 fun xs H2 => rPopAt v xs H2 Q) : PE X (.Call (.Attribute (.Name x px) "pop" pa) [b] [] pos) (tOf X.K E (popAtM i fb)) :=
  PE_imp (ht _ _ (pe_var hN hv hd hcd) (pa_cons hb pa_nil h1)) fun σ H Q ⟨c, g, F, Γ, hK, R, h⟩ => by
    rw [hq]
    unfold popAtM at h
    split at h
    · rename_i ds0 hi0
      obtain ⟨p, vs0, e1, hp0, _, _⟩ := R.ownAt hi0
      refine ⟨_, e1, .inl ⟨rfl, _, .inl (.inl hp0)⟩, c, g, F, Γ, hK, R, (Post.split (rel2 := relD c) h).imp fun y H1 ⟨F1, Γ1, d2, R1, s1, r1, h1⟩ => ?_⟩
      split at h1
      · rename_i ds k hi
        obtain ⟨p', vs, e2, hp, r, up⟩ := R1.ownAt hi
        rw [e1] at e2
        cases e2
        split at h1
        · rename_i hk
          split at h1
          · rename_i d hd
            obtain ⟨v, hv, rv⟩ := r.get hd
            cases r1
            have hlt : k.toNat < vs.length := (List.getElem?_eq_some_iff.mp hv).1
            refine ⟨p, vs, k, k.toNat, v, rfl, rfl, hp, by omega, hk.2, ?_, hv, h1 _ _ F1 (up _ _ (r.erase _)) (Same.refl _) rv⟩
            exact PySem.StrLaws.seqIndex_nonneg hk.1 (by omega)
          · exact h1.elim
        · exact h1.elim
      · exact h1.elim
    · exact h.elim
end
end DS
set_option maxRecDepth 100000
set_option maxHeartbeats 4000000
namespace DS
open PySem PySem.Spec L2
/-- what a class of plain instances must say -/
def objB (K : PySem.W.Frag) (C : Addr) : Bool := PySem.W.plainGet K C Str.empty && (PySem.W.hasDictIn K C && (PySem.W.plainOver K C && (He.eqO (PySem.W.findIn K (.ref C) "__setattr__") (some (some (.builtin "object.__setattr__"))) &&
  (He.eqO (PySem.W.findIn K (.ref C) "__class__") (some (some (.builtin "object.__class__"))) && (He.eqO (PySem.W.specialIn K (.builtin "object.__class__") "__get__") (some (some (.builtin "getset_descriptor.__get__"))) &&
  (decide (PySem.W.takesIn K (.builtin "object.__class__") = some true) && decide (PySem.W.mroIn K C (.type "object") = some true)))))))
/-- .. of exceptions -/
def excB (K : PySem.W.Frag) (C : Addr) : Bool := He.eqO (PySem.W.findIn K (.ref C) "__getattribute__") (some (some (.builtin "BaseException.__getattribute__"))) && (He.eqO (PySem.W.findIn K (.ref C) "__getattr__") (some none) &&
  (decide (PySem.W.subIn K (.ref C) (.type "BaseException") = some true) && (PySem.W.hasDictIn K C && (He.eqO (PySem.W.findIn K (.ref C) "__class__") (some (some (.builtin "object.__class__"))) &&
  (He.eqO (PySem.W.specialIn K (.builtin "object.__class__") "__get__") (some (some (.builtin "getset_descriptor.__get__"))) && (decide (PySem.W.takesIn K (.builtin "object.__class__") = some true) && decide (PySem.W.mroIn K C (.type "object") = some true)))))))
theorem and_inv {a b : Bool} (h : (a && b) = true) : a = true ∧ b = true := Bool.and_eq_true_iff.mp h
theorem excC_of {K : PySem.W.Frag} {C : Addr} (h : excB K C = true) : ExcC K C := by
  obtain ⟨h1, h⟩ := and_inv h
  obtain ⟨h2, h⟩ := and_inv h
  obtain ⟨h3, h⟩ := and_inv h
  obtain ⟨h4, h⟩ := and_inv h
  obtain ⟨h5, h⟩ := and_inv h
  obtain ⟨h6, h⟩ := and_inv h
  obtain ⟨h7, h8⟩ := and_inv h
  exact ⟨He.eqO_ok h1, He.eqO_ok h2, of_decide_eq_true h3, h4, He.eqO_ok h5, He.eqO_ok h6, of_decide_eq_true h7, of_decide_eq_true h8⟩
theorem objTy_of {K : PySem.W.Frag} {C : Addr} (h : objB K C = true) {H : Hp} {a dx : Addr} {fs : List (Str × V)} (e : H a = some (.ins C dx fs)) : TyOf K H (.ref a) (.ref C) := by
  obtain ⟨h1, h⟩ := and_inv h
  obtain ⟨h2, h⟩ := and_inv h
  obtain ⟨h3, h⟩ := and_inv h
  obtain ⟨h4, h⟩ := and_inv h
  obtain ⟨h5, h⟩ := and_inv h
  obtain ⟨h6, h⟩ := and_inv h
  obtain ⟨h7, h8⟩ := and_inv h
  exact .ins e ⟨h1, h2, h3, He.eqO_ok h4⟩ (He.eqO_ok h5) (He.eqO_ok h6) (of_decide_eq_true h7) (of_decide_eq_true h8)
/-- the class of a datum -/
def tyD (K : PySem.W.Frag) : D → Option Value
  | .non => some (.type "NoneType")
  | .bl _ => some (.type "bool")
  | .int _ => some (.type "int")
  | .str _ => some (.type "str")
  | .tup _ => some (.type "tuple")
  | .lst _ => some (.type "list")
  | .dic _ => some (.type "dict")
  | .st => some (.type "dict")
  | .obj n _ => if objB K (ce K n) then some (.ref (ce K n)) else none
  | .exc n => if excB K (ce K n) then some (.ref (ce K n)) else none
  | _ => none
def clD (K : PySem.W.Frag) : D → Option Value
  | .ty n => some (.type n)
  | .glob x => some (.ref (ce K x))
  | _ => none
def clDs (K : PySem.W.Frag) : List D → Option (List Value)
  | [] => some []
  | d :: r => match clD K d, clDs K r with
    | some v, some vs => some (v :: vs)
    | _, _ => none
def isiD (K : PySem.W.Frag) : List D → Option D
  | [x, .tup ts] => match tyD K x, clDs K ts with
    | some t, some cs => (PySem.W.kitAny K t cs).map .bl
    | _, _ => none
  | [x, t] => match tyD K x, clD K t with
    | some t, some u => (PySem.W.kitOne K t u).map .bl
    | _, _ => none
  | _ => none
section
variable {X : Cx}
theorem clV_of {c : RC} {F : Hp} {v : V} {d : D} {u : Value} (r : Rep c F v d) (h : clD c.K d = some u) : ClsV v u := by
  cases r with
  | ty n => cases h; exact .ty n
  | glob x => cases h; exact .own _
  | _ => cases h
theorem clVs_of {c : RC} {F : Hp} : ∀ {vs : List V} {ds : List D} {us : List Value}, Reps c F vs ds → clDs c.K ds = some us → Paired ClsV vs us
  | _, _, _, .nil, h => by cases h; exact .nil
  | _, _, _, .cons (d := d) (ds := ds) r rs, h => by
    unfold clDs at h
    cases hd : clD c.K d with
    | none => rw [hd] at h; cases h
    | some u =>
      cases hr : clDs c.K ds with
      | none => rw [hd, hr] at h; cases h
      | some us => rw [hd, hr] at h; cases h; exact .cons (clV_of r hd) (clVs_of rs hr)
/-- its class, and what the library's rules ask -/
theorem kit_d {c : RC} {g : Gh} {F H : Hp} {σ σ' : St} {Γ : G} {pins : List (Addr × Obj)} {s : Shared} {x : V} {u t : Value} {d : D} (I : L2.Inv X pins σ H s) (hK : c.K = X.K) (R : Rel c g F H σ' Γ) (r : Rep c F x d) (rx : RelV x u) (h : tyD X.K d = some t) :
    ∃ P : Heap → Prop, PySem.W.KitX X.K u t P ∧ P s.heap ∧ u ≠ .builtin "__main__.__loader__#opaque" := by
  cases r with
  | non => cases h; exact kit_of I rx (.base .non)
  | bl b => cases h; exact kit_of I rx (.base (.bl b))
  | int i => cases h; exact kit_of I rx (.base (.int i))
  | str y => cases h; exact kit_of I rx (.base (.str y))
  | tup ha _ => cases h; exact kit_of I rx (.base (.tup (R.sub _ _ ha)))
  | lst ha _ => cases h; exact kit_of I rx (.base (.lst (R.sub _ _ ha)))
  | scr ha => cases h
  | dic ha _ _ => cases h; exact kit_of I rx (.base (.dK (R.sub _ _ ha)))
  | st =>
    cases h
    obtain ⟨sc, h1, _⟩ := R.dst
    exact kit_of I rx (.base (.dK h1))
  | @obj a dx n ks xs ds ha _ _ =>
    have h' : (if objB X.K (ce X.K n) then some (Value.ref (ce X.K n)) else none) = some t := h
    split at h'
    · rename_i ho
      cases h'
      rw [hK] at ha
      exact kit_of I rx (.base (objTy_of ho (R.sub _ _ ha)))
    · cases h'
  | @exc a n ha =>
    have h' : (if excB X.K (ce X.K n) then some (Value.ref (ce X.K n)) else none) = some t := h
    split at h'
    · rename_i ho
      cases h'
      cases (show u = Value.ref a from rx)
      rw [hK] at ha
      have C := excC_of ho
      obtain ⟨⟨oe, vs, e1, e2, e3⟩, _, _⟩ := I.hok a _ (R.sub _ _ ha)
      have J : PySem.W.InstAt s.heap a oe (ce X.K n) none := by
        obtain ⟨oc, od, oda, osl⟩ := oe
        obtain ⟨k1, k2⟩ := e2
        dsimp only at k1 k2 e3
        subst k1 k2 e3
        exact ⟨e1, rfl, rfl, trivial⟩
      exact ⟨_, PySem.W.handS_kitx_exc C.hg C.hk C.hs C.hd C.ha C.hn C.ht C.hm, J, fun z => nomatch z⟩
    · cases h'
  | _ => cases h
theorem cd_isi : CallR X (.builtin "isinstance") (rC X.K (isiD X.K)) := by
  intro pins s σ H xs us Q I r h
  obtain ⟨c, g, F, σ', Γ, ds, d, hK, R, rs, ho, q⟩ := h
  have two : ∀ (x : D) (t : D), ds = [x, t] → ∃ vx vt ux ut, xs = [vx, vt] ∧ us = [ux, ut] ∧ Rep c F vx x ∧ Rep c F vt t ∧ RelV vx ux ∧ RelV vt ut := by
    intro x t e
    subst e
    cases rs with
    | cons r1 r2 =>
      cases r2 with
      | cons r2 r3 =>
        cases r3
        obtain ⟨u1, u2, e, q1, q2⟩ := vals2 r
        exact ⟨_, _, u1, u2, rfl, e, r1, r2, q1, q2⟩
  unfold isiD at ho
  split at ho
  · rename_i x ts
    obtain ⟨vx, vt, ux, ut, rfl, rfl, r1, r2, q1, q2⟩ := two _ _ rfl
    split at ho
    · rename_i t cs e1 e2
      cases hk : PySem.W.kitAny X.K t cs with
      | none => rw [hk] at ho; cases ho
      | some k =>
        rw [hk] at ho
        cases ho
        obtain ⟨P, Z, p, hx⟩ := kit_d I hK R r1 q1 e1
        cases r2 with
        | @tup tp ws _ ht rt =>
          cases (show ut = Value.ref tp from q2)
          rw [← hK] at e2
          have k3 := clVs_of rt e2
          obtain ⟨_, its, rv, o, h1, h2, n, h3⟩ := (show ObjOk X.prog X.w H s.heap tp (.tup ws) from I.hok tp _ (R.sub _ _ ht))
          have e3 := ClsV.all k3 rv
          subst e3
          obtain ⟨oc, od, dt, sl⟩ := o
          simp only at h2 h3
          subst h2 h3
          exact PySem.W.kia_tup Z I.kIn p h1 hk hx fun tk => ⟨.bl k, H, I.tok tk, rfl, q _ H F R (Same.refl F) (.bl k)⟩
    · cases ho
  · rename_i x t hnt
    obtain ⟨vx, vt, ux, ut, rfl, rfl, r1, r2, q1, q2⟩ := two _ _ rfl
    split at ho
    · rename_i tv u e1 e2
      cases hk : PySem.W.kitOne X.K tv u with
      | none => rw [hk] at ho; cases ho
      | some k =>
        rw [hk] at ho
        cases ho
        obtain ⟨P, Z, p, hx⟩ := kit_d I hK R r1 q1 e1
        rw [← hK] at e2
        have e3 := (clV_of r2 e2).eq q2
        subst e3
        exact PySem.W.kia_one Z I.kIn p hk hx fun tk => ⟨.bl k, H, I.tok tk, rfl, q _ H F R (Same.refl F) (.bl k)⟩
    · cases ho
  · cases ho
end
section
variable {K : PySem.W.Frag}
theorem k_nn_int : PySem.W.kitOne K (.type "NoneType") (.type "int") = some false := kit_ty (by decide +kernel)
theorem k_nn_bool : PySem.W.kitOne K (.type "NoneType") (.type "bool") = some false := kit_ty (by decide +kernel)
theorem k_nn_tuple : PySem.W.kitOne K (.type "NoneType") (.type "tuple") = some false := kit_ty (by decide +kernel)
theorem k_bool_int : PySem.W.kitOne K (.type "bool") (.type "int") = some true := kit_ty (by decide +kernel)
theorem k_bool_bool : PySem.W.kitOne K (.type "bool") (.type "bool") = some true := kit_ty (by decide +kernel)
theorem k_bool_tuple : PySem.W.kitOne K (.type "bool") (.type "tuple") = some false := kit_ty (by decide +kernel)
theorem k_int_int : PySem.W.kitOne K (.type "int") (.type "int") = some true := kit_ty (by decide +kernel)
theorem k_int_bool : PySem.W.kitOne K (.type "int") (.type "bool") = some false := kit_ty (by decide +kernel)
theorem k_int_tuple : PySem.W.kitOne K (.type "int") (.type "tuple") = some false := kit_ty (by decide +kernel)
theorem k_str_int : PySem.W.kitOne K (.type "str") (.type "int") = some false := kit_ty (by decide +kernel)
theorem k_str_bool : PySem.W.kitOne K (.type "str") (.type "bool") = some false := kit_ty (by decide +kernel)
theorem k_str_tuple : PySem.W.kitOne K (.type "str") (.type "tuple") = some false := kit_ty (by decide +kernel)
theorem k_tuple_int : PySem.W.kitOne K (.type "tuple") (.type "int") = some false := kit_ty (by decide +kernel)
theorem k_tuple_bool : PySem.W.kitOne K (.type "tuple") (.type "bool") = some false := kit_ty (by decide +kernel)
theorem k_tuple_tuple : PySem.W.kitOne K (.type "tuple") (.type "tuple") = some true := kit_ty (by decide +kernel)
theorem k_list_int : PySem.W.kitOne K (.type "list") (.type "int") = some false := kit_ty (by decide +kernel)
theorem k_list_bool : PySem.W.kitOne K (.type "list") (.type "bool") = some false := kit_ty (by decide +kernel)
theorem k_list_tuple : PySem.W.kitOne K (.type "list") (.type "tuple") = some false := kit_ty (by decide +kernel)
theorem k_dict_int : PySem.W.kitOne K (.type "dict") (.type "int") = some false := kit_ty (by decide +kernel)
theorem k_dict_bool : PySem.W.kitOne K (.type "dict") (.type "bool") = some false := kit_ty (by decide +kernel)
theorem k_dict_tuple : PySem.W.kitOne K (.type "dict") (.type "tuple") = some false := kit_ty (by decide +kernel)
end
end DS
set_option maxRecDepth 100000
set_option maxHeartbeats 4000000
namespace DS
open PySem PySem.Spec L2
theorem Rel.putSt {c : RC} {g : Gh} {F H H' : Hp} {σ : St} {Γ : G} {S' : DrawSt} (R : Rel c g F H σ Γ) (e : ∀ b, b ≠ c.sa → b ≠ c.sg → H' b = H b) (d : DstR c F H' S') (tt : LamX.Tabs Γ.ds.T H → LamX.Tabs S'.T H') : Rel c g F H' σ { Γ with ds := S' } := by
  obtain ⟨sc, _, _, _, d4, d5, _⟩ := id R.dst
  have hf : ∀ b u, g.has b u → b ≠ c.sa → b ≠ c.sg → H' b = some u := fun b u q h1 h2 => by rw [e b h1 h2]; exact R.fra b u q h1 h2
  refine ⟨fun b u q => ?_, R.subF, hf, R.fz, R.len, fun i s q => ?_, R.dis, d, tt R.tab, R.nt⟩
  · have h1 : b ≠ c.sa := fun z => by rw [z, d4] at q; cases q
    have h2 : b ≠ c.sg := fun z => by rw [z, d5] at q; cases q
    rw [e b h1 h2]; exact R.sub b u q
  · obtain ⟨o, eo, r⟩ := R.slot i s q
    refine ⟨o, eo, r.mono hf (Same.refl F) fun a hs ea => ?_⟩
    obtain ⟨_, q2, _, q4, q5⟩ := R.owned ⟨i, s, q, hs, by rw [eo, ea]⟩
    exact ⟨e a q4 q5, q2⟩
inductive SK where
  | great | cells | left | turn
def SK.name : SK → Str
  | .great => PySem.Str.ofString "great"
  | .cells => PySem.Str.ofString "cells"
  | .left => PySem.Str.ofString "left"
  | .turn => PySem.Str.ofString "turn"
def stGetD (k : SK) (S : DrawSt) : D := match k with
  | .great => .gr
  | .cells => .lst (S.cells.map D.int)
  | .left => .int S.left
  | .turn => .int S.turn
def stGetM (k : SK) (fa : M D) : M D := fun Γ => (fa Γ).bind fun d Γ1 => match d with
  | .st => .ok (stGetD k Γ1.ds) Γ1
  | _ => .stuck
section
variable {X : Cx} {E : XK} {a b e : Expr} {fa fb : M D} {pos : Pos}
theorem kn1 : ¬ kGreat = kCells := by decide
theorem kn2 : ¬ kGreat = kLeft := by decide
theorem kn3 : ¬ kGreat = kTurn := by decide
theorem kn4 : ¬ kCells = kLeft := by decide
theorem kn5 : ¬ kCells = kTurn := by decide
theorem kn6 : ¬ kLeft = kTurn := by decide
theorem st_val {c : RC} {g : Gh} {F H : Hp} {σ : St} {Γ : G} (R : Rel c g F H σ Γ) (k : SK) : ∃ v, DGet H c.sa (.str k.name) (some v) ∧ Rep c F v (stGetD k Γ.ds) := by
  obtain ⟨sc, d1, d2, d3, d4, d5, d6⟩ := id R.dst
  have get : ∀ v, valV [(kGreat, V.ref c.sg), (kCells, .ref sc), (kLeft, .int Γ.ds.left), (kTurn, .int Γ.ds.turn)] (.inr k.name) = some v → DGet H c.sa (.str k.name) (some v) := fun v e => by
    rw [← e]; exact DGet.k (k := .inr k.name) d1
  cases k with
  | great => exact ⟨.ref c.sg, get _ (valV_pos rfl), .gr⟩
  | cells => exact ⟨.ref sc, get _ ((valV_neg kn1).trans (valV_pos rfl)), .lst d3 (Reps.ints _)⟩
  | left => exact ⟨.int Γ.ds.left, get _ ((valV_neg kn2).trans ((valV_neg kn4).trans (valV_pos rfl))), .int _⟩
  | turn => exact ⟨.int Γ.ds.turn, get _ ((valV_neg kn3).trans ((valV_neg kn5).trans ((valV_neg kn6).trans (valV_pos rfl)))), .int _⟩
theorem se_stget (k : SK) {j : Nat} {p2 : Pos} (hu : X.A.units + 1 < cLine) (ha : PE X a (tOf X.K E fa)) (hs : NoSl (.Constant (.str k.name) j p2) := by exact fun _ _ => rfl) : PE X (.Subscript a (.Constant (.str k.name) j p2) pos) (tOf X.K E (stGetM k fa)) :=
  PE_imp (pe_dget hu ha pe_str hs) fun σ H Q ⟨c, g, F, Γ, hK, R, h⟩ => ⟨c, g, F, Γ, hK, R, (Post.split (rel2 := relD c) h).imp fun v H1 ⟨F1, Γ1, d, R1, s1, r1, h1⟩ => by
    cases r1 with
    | st =>
      obtain ⟨w, e1, r⟩ := st_val R1 k
      exact ⟨c.sa, w, rfl, e1, h1 _ H1 F1 R1 (Same.refl _) r⟩
    | _ => exact h1.elim⟩
/-- state['left'] = e, state['turn'] = e -/
def stPutD (k : SK) (i : Int) (S : DrawSt) : Option DrawSt := match k with
  | .left => some { S with left := i }
  | .turn => some { S with turn := i }
  | _ => none
def stPutM (k : SK) (fd fv : M D) : SM := fun Γ => (fv Γ).bind fun v Γ1 => (fd Γ1).bind fun d Γ2 => match d, v with
  | .st, .int i => match stPutD k i Γ2.ds with
    | some S => .ok .nx { Γ2 with ds := S }
    | none => .stuck
  | _, _ => .stuck
theorem putK_left (g sc : V) (l t i : Int) : L2.putK [(kGreat, g), (kCells, sc), (kLeft, V.int l), (kTurn, V.int t)] kLeft (.int i) = [(kGreat, g), (kCells, sc), (kLeft, .int i), (kTurn, .int t)] := by
  have e1 : (kGreat = kLeft) = False := eq_false (by decide)
  have e2 : (kCells = kLeft) = False := eq_false (by decide)
  have e3 : (kTurn = kLeft) = False := eq_false (by decide)
  simp [L2.putK, e1, e2, e3]
theorem putK_turn (g sc : V) (l t i : Int) : L2.putK [(kGreat, g), (kCells, sc), (kLeft, V.int l), (kTurn, V.int t)] kTurn (.int i) = [(kGreat, g), (kCells, sc), (kLeft, .int l), (kTurn, .int i)] := by
  have e1 : (kGreat = kTurn) = False := eq_false (by decide)
  have e2 : (kCells = kTurn) = False := eq_false (by decide)
  have e3 : (kLeft = kTurn) = False := eq_false (by decide)
  simp [L2.putK, e1, e2, e3]
theorem small4 : (4 : Nat) < sizeLine := by rw [← line_ok]; decide
theorem ss_stput (k : SK) {j : Nat} {p2 pos' : Pos} {fv : M D} {value : Expr} (hu : X.A.units + 1 < cLine) (ha : PE X a (tOf X.K E fa)) (hv : PE X value (tOf X.K E fv)) (hs : swapsWith value (some (.Subscript a (.Constant (.str k.name) j p2) pos')) pos.line X.env = pure false := by rfl) :
    PS X (.Assign [.Subscript a (.Constant (.str k.name) j p2) pos'] value pos) (sOf X.K E (stPutM k fa fv)) :=
  PS_imp (ps_dput hu ha pe_str hv hs) fun Dd σ H ⟨c, g, F, Γ, hK, R, h⟩ => ⟨c, g, F, Γ, hK, R, (PostS.split (rel := relD c) h).imp fun v H1 ⟨F1, Γ1, d, R1, s1, r1, h1⟩ =>
    ⟨c, g, F1, Γ1, hK, R1, (PostS.split (rel := relD c) h1).imp fun x H2 ⟨F2, Γ2, d2, R2, s2, r2, h2⟩ => by
      split at h2
      · rename_i i zz
        cases r1
        cases r2
        obtain ⟨sc, d1, d2, d3, d4, d5, d6⟩ := id R2.dst
        refine ⟨c.sa, _, rfl, DPut.k (k := .inr k.name) d1 small4, ?_⟩
        cases k with
        | left =>
          refine h2 σ _ F2 (R2.putSt (S' := { Γ2.ds with left := i }) (fun b h1 h2 => upd_ne h1) ⟨sc, ?_, by rw [upd_ne d6.symm]; exact d2, d3, d4, d5, d6⟩ (fun t => tabs_upd t fun u q => by rw [d1] at q; cases q; exact plo_dK)) (Same.refl _)
          rw [upd_same]
          show some (HO.dK _) = some (HO.dK _)
          rw [show (Sum.inr SK.left.name : Key) = kLeft from rfl, putK_left]
        | turn =>
          refine h2 σ _ F2 (R2.putSt (S' := { Γ2.ds with turn := i }) (fun b h1 h2 => upd_ne h1) ⟨sc, ?_, by rw [upd_ne d6.symm]; exact d2, d3, d4, d5, d6⟩ (fun t => tabs_upd t fun u q => by rw [d1] at q; cases q; exact plo_dK)) (Same.refl _)
          rw [upd_same]
          show some (HO.dK _) = some (HO.dK _)
          rw [show (Sum.inr SK.turn.name : Key) = kTurn from rfl, putK_turn]
        | great => exact h2.elim
        | cells => exact h2.elim
      · exact h2.elim⟩⟩
/-- state['great'] != [] -/
def greatNeM (fa fb : M D) : M Bool := boolM fun Γ => (fa Γ).bind fun x Γ1 => (fb Γ1).bind fun y Γ2 => match x with
  | .gr => liftO (neD (.lst (Γ2.ds.great.map .int)) y) Γ2
  | _ => .stuck
theorem te_greatNe (hu : X.A.units + 64 < cLine) (ha : PE X a (tOf X.K E fa)) (hb : PE X b (tOf X.K E fb)) : PT X (.Compare a [.NotEq] [b] pos) (bOf X.K E (greatNeM fa fb)) :=
  PT_imp (pt_cmpR (op_neD hu) ha hb (nomark _)) fun σ H Q h => by
    obtain ⟨c, g, F, Γ, hK, R, h⟩ := bool_to h
    refine ⟨c, g, F, Γ, hK, R, (Post.split (rel2 := relD c) h).imp fun x H1 ⟨F1, Γ1, d1, R1, s1, r1, h1⟩ => ⟨c, g, F1, Γ1, hK, R1, (Post.split (rel2 := relD c) h1).imp fun y H2 ⟨F2, Γ2, d2, R2, s2, r2, h2⟩ => ?_⟩⟩
    split at h2
    · cases r1
      unfold liftO at h2
      cases ho : neD (.lst (Γ2.ds.great.map .int)) d2 with
      | none => rw [ho] at h2; exact h2.elim
      | some d =>
        rw [ho] at h2
        obtain ⟨p1, p2, e1, e2, s1, s2, rfl⟩ := neD_inv ho
        obtain ⟨sc, q1, q2, q3, q4, q5, q6⟩ := id R2.dst
        exact ⟨p1, p2, dp_list (c := c) R2.sub q2 (Reps.ints _) e1, dp_of R2.sub r2 e2, s1, s2, h2 _ H2 F2 R2 (Same.refl _) (.bl _)⟩
    · exact h2.elim
/-- state['great'].pop(0) -/
def popGreatM (fa fb : M D) : M D := fun Γ => (fa Γ).bind fun x Γ1 => match x with
  | .gr => (fb Γ1).bind fun y Γ2 => match y with
    | .int k => if 0 ≤ k ∧ k < 2 ^ 63 then match Γ2.ds.great[k.toNat]? with
      | some i => .ok (.int i) { Γ2 with ds := { Γ2.ds with great := Γ2.ds.great.eraseIdx k.toNat } }
      | none => .stuck
      else .stuck
    | _ => .stuck
  | _ => .stuck
theorem map_erase {α β : Type} (f : α → β) : ∀ (l : List α) (k : Nat), (l.eraseIdx k).map f = (l.map f).eraseIdx k
  | [], _ => rfl
  | _ :: _, 0 => rfl
  | x :: l, k + 1 => by
    show f x :: (l.eraseIdx k).map f = f x :: (l.map f).eraseIdx k
    rw [map_erase f l k]
theorem se_popGreat {pa : Pos} (ha : PE X a (tOf X.K E fa)) (hb : PE X b (tOf X.K E fb)) (h1 : starEach [b] X.env = (false, eval b X.env) :: starEach [] X.env := by rfl) (t : TE → TA → TE) (ht : ∀ to ta, PE X a to → PA X [b] ta → PE X (.Call (.Attribute a "pop" pa) [b] [] pos) (t to ta))
    (hq : ∀ to ta, t to ta = fun σ H Q => to σ H fun v H1 => tyV X.K "list" v H1 ∧ ta σ H1 fun xs H2 => rPopAt v xs H2 Q) : PE X (.Call (.Attribute a "pop" pa) [b] [] pos) (tOf X.K E (popGreatM fa fb)) :=
  PE_imp (ht _ _ ha (pa_cons hb pa_nil h1)) fun σ H Q ⟨c, g, F, Γ, hK, R, h⟩ => by
    rw [hq]
    refine ⟨c, g, F, Γ, hK, R, (Post.split (rel2 := relD c) h).imp fun x H1 ⟨F1, Γ1, d1, R1, s1, r1, h1⟩ => ?_⟩
    split at h1
    · cases r1
      obtain ⟨sc, q1, q2, q3, q4, q5, q6⟩ := id R1.dst
      refine ⟨.inl ⟨rfl, _, .inl (.inl q2)⟩, c, g, F1, Γ1, hK, R1, (Post.split (rel2 := relD c) h1).imp fun y H2 ⟨F2, Γ2, d2, R2, s2, r2, h2⟩ => ?_⟩
      split at h2
      · rename_i k
        split at h2
        · rename_i hk
          split at h2
          · rename_i i hi
            cases r2
            obtain ⟨sc', q1', q2', q3', q4', q5', q6'⟩ := id R2.dst
            have hlt : k.toNat < Γ2.ds.great.length := (List.getElem?_eq_some_iff.mp hi).1
            refine ⟨c.sg, _, k, k.toNat, .int i, rfl, rfl, q2', by omega, hk.2, ?_, by rw [List.getElem?_map, hi]; rfl, h2 _ _ F2 (R2.putSt (S' := { Γ2.ds with great := Γ2.ds.great.eraseIdx k.toNat }) (fun b h1 h2 => upd_ne h2) ⟨sc', by rw [upd_ne q6']; exact q1', ?_, q3', q4', q5', q6'⟩ (fun t => tabs_upd t fun u q => by rw [q2'] at q; cases q; exact plo_lst)) (Same.refl _) (.int i)⟩
            · rw [List.length_map]
              exact PySem.StrLaws.seqIndex_nonneg hk.1 (by omega)
            · rw [upd_same, map_erase]
          · exact h2.elim
        · exact h2.elim
      · exact h2.elim
    · exact h1.elim
end
end DS
set_option maxRecDepth 100000
set_option maxHeartbeats 4000000
namespace DS
open PySem PySem.Spec L2
inductive RV where
  | v (d : D) | l (ds : List D) | k (kvs : List (Key × D))
def RV.slot : RV → Slot
  | .v d => .val d
  | .l ds => .own ds
  | .k kvs => .ownd kvs
def RV.fresh : RV → Bool
  | .v _ => false
  | _ => true
def relR1 (c : RC) (g : Gh) (σ : St) (F H : Hp) (Γ : G) (v : V) : RV → Prop
  | .v d => Rep c F v d
  | .l ds => relL c g σ F H Γ v ds
  | .k kvs => relK c g σ F H Γ v kvs
inductive RRow (c : RC) (g : Gh) (σ : St) (F H : Hp) (Γ : G) : List V → List RV → Prop
  | nil : RRow c g σ F H Γ [] []
  | cons {v : V} {vs : List V} {r : RV} {rs : List RV} : relR1 c g σ F H Γ v r → RRow c g σ F H Γ vs rs → (r.fresh = true → ∀ (i : Nat) (w : V) (q : RV), vs[i]? = some w → rs[i]? = some q → q.fresh = true → v ≠ w) → RRow c g σ F H Γ (v :: vs) (r :: rs)
def rOf (K : PySem.W.Frag) (E : XK) (f : M (List RV)) : TA := fun σ H Q => ∃ c g F Γ, c.K = K ∧ Rel c g F H σ Γ ∧ Post c g σ E (fun F H Γ b a => RRow c g σ F H Γ b a) Q F (f Γ)
section
variable {c : RC} {g : Gh} {F H : Hp} {σ : St} {Γ : G}
theorem RRow.length : ∀ {vs : List V} {rs : List RV}, RRow c g σ F H Γ vs rs → vs.length = rs.length
  | _, _, .nil => rfl
  | _, _, .cons _ r _ => by rw [List.length_cons, List.length_cons, RRow.length r]
theorem RRow.get : ∀ {vs : List V} {rs : List RV} {i : Nat} {w : V} {q : RV}, RRow c g σ F H Γ vs rs → vs[i]? = some w → rs[i]? = some q → relR1 c g σ F H Γ w q
  | _, _, 0, _, _, .cons h _ _, e1, e2 => by simp at e1 e2; subst e1 e2; exact h
  | _, _, i + 1, w, q, .cons _ r _, e1, e2 => RRow.get (i := i) r (by simpa using e1) (by simpa using e2)
/-- an address at which a new thing stands -/
theorem relR1.addr {v : V} {r : RV} (h : relR1 c g σ F H Γ v r) (hf : r.fresh = true) : ∃ p o, v = .ref p ∧ H p = some o ∧ NT o ∧ F p = none ∧ g.no p ∧ p ≠ c.sa ∧ p ≠ c.sg ∧ ¬ Owned σ Γ p := by
  cases r with
  | v d => cases hf
  | l ds => obtain ⟨p, vs, e, hp, _, n4, n3, n1, n2, n5⟩ := h; exact ⟨p, _, e, hp, plo_lst.1, n4, n3, n1, n2, n5⟩
  | k kvs => obtain ⟨p, ks, vs, ds, e, hp, _, _, _, n4, n3, n1, n2, n5⟩ := h; exact ⟨p, _, e, hp, plo_dK.1, n4, n3, n1, n2, n5⟩
theorem gh2_new (R : Rel c g F H σ Γ) {p : Addr} (e : (gh2 g F H σ Γ).no p) (h1 : p ≠ c.sa) (h2 : p ≠ c.sg) : g.no p := fun o q => by
  obtain ⟨q, hn⟩ := q
  rcases q with q | q
  · have no : ¬ Owned σ Γ p := fun w => by
      obtain ⟨_, _, z, _, _⟩ := R.owned w
      exact z o ⟨.inl q, hn⟩
    exact e o ⟨.inl (gh2_at (R.fra p o ⟨.inl q, hn⟩ h1 h2) no), hn⟩
  · exact e o ⟨.inr q, hn⟩
/-- a reading under the other ghost -/
theorem Post.under {α δ γ : Type} {β : Type} {E : XK} {rel : Hp → Hp → G → β → α → Prop} {rel2 : Hp → Hp → G → γ → δ → Prop} {Q : β → Hp → Prop} {r : Res δ} {k : δ → G → Res α} (R : Rel c g F H σ Γ) (h : Post c g σ E rel Q F (r.bind k)) :
    Post c (gh2 g F H σ Γ) σ E rel2 (fun b H' => ∃ F' Γ' a, Rel c (gh2 g F H σ Γ) F' H' σ Γ' ∧ Rel c g F' H' σ Γ' ∧ Same F F' ∧ rel2 F' H' Γ' b a ∧ Post c g σ E rel Q F' (k a Γ')) F r := by
  cases r with
  | ok a Γ1 => exact fun b H2 F2 R2 s2 q => ⟨F2, Γ1, a, R2, R.unghost R2 s2, s2, q, Post.mono h s2⟩
  | exc n S => exact fun H2 F2 R2 s2 => h H2 F2 (R.unghost R2 s2) s2
  | stuck => exact h
theorem relR1.up (R : Rel c g F H σ Γ) {F' H' : Hp} {Γ' : G} {v : V} {r : RV} (h : relR1 c (gh2 g F H σ Γ) σ F' H' Γ' v r) : relR1 c g σ F' H' Γ' v r := by
  cases r with
  | v d => exact h
  | l ds => obtain ⟨p, vs, e, hp, r, n4, n3, n1, n2, n5⟩ := h; exact ⟨p, vs, e, hp, r, n4, gh2_new R n3 n1 n2, n1, n2, n5⟩
  | k kvs => obtain ⟨p, ks, vs, ds, e, hp, l, r, ek, n4, n3, n1, n2, n5⟩ := h; exact ⟨p, ks, vs, ds, e, hp, l, r, ek, n4, gh2_new R n3 n1 n2, n1, n2, n5⟩
theorem RRow.up (R : Rel c g F H σ Γ) {F' H' : Hp} {Γ' : G} : ∀ {vs : List V} {rs : List RV}, RRow c (gh2 g F H σ Γ) σ F' H' Γ' vs rs → RRow c g σ F' H' Γ' vs rs
  | _, _, .nil => .nil
  | _, _, .cons h t n => .cons (relR1.up R h) (RRow.up R t) n
/-- what stands new stays over what comes behind it -/
theorem relR1.keep (R : Rel c g F H σ Γ) {F' H' : Hp} {Γ' : G} {v : V} {r : RV} (h : relR1 c g σ F H Γ v r) (R' : Rel c (gh2 g F H σ Γ) F' H' σ Γ') (s : Same F F') : relR1 c g σ F' H' Γ' v r := by
  have no : ∀ p o, H p = some o → NT o → ¬ Owned σ Γ p → ¬ Owned σ Γ' p := fun p o hp ht hn ow => by
    obtain ⟨_, _, z, _, _⟩ := R'.owned ow
    exact z o ⟨.inl (gh2_at hp hn), ht⟩
  cases r with
  | v d => exact Rep.mono s h
  | l ds =>
    obtain ⟨p, vs, e, hp, r, n4, n3, n1, n2, n5⟩ := h
    exact ⟨p, vs, e, R'.fra p _ ⟨.inl (gh2_at hp n5), plo_lst.1⟩ n1 n2, r.mono s, R'.fz p _ (gh2_at hp n5) (fun _ z => HO.noConfusion z) n4, n3, n1, n2, no p _ hp (fun _ z => HO.noConfusion z) n5⟩
  | k kvs =>
    obtain ⟨p, ks, vs, ds, e, hp, l, r, ek, n4, n3, n1, n2, n5⟩ := h
    exact ⟨p, ks, vs, ds, e, R'.fra p _ ⟨.inl (gh2_at hp n5), plo_dK.1⟩ n1 n2, l, r.mono s, ek, R'.fz p _ (gh2_at hp n5) (fun _ z => HO.noConfusion z) n4, n3, n1, n2, no p _ hp (fun _ z => HO.noConfusion z) n5⟩
end
def nilR : M (List RV) := retM []
def consR {α : Type} (k : α → RV) (f : M α) (r : M (List RV)) : M (List RV) := fun Γ => (f Γ).bind fun d Γ1 => (r Γ1).bind fun ds Γ2 => .ok (k d :: ds) Γ2
section
variable {X : Cx} {E : XK} {a b e : Expr} {fa fb : M D} {pos : Pos}
theorem sr_nil : PA X [] (rOf X.K E nilR) := PA_imp pa_nil fun σ H Q ⟨c, g, F, Γ, hK, R, h⟩ => h [] H F R (Same.refl F) .nil
/-- the rest of a row -/
theorem consR_to {α : Type} {k : α → RV} {fr : M (List RV)} {tr : TA} {c : RC} {g : Gh} {F H : Hp} {σ : St} {Γ : G} {v : V} {d : α} {Q : List V → Hp → Prop} (hK : c.K = X.K) (R : Rel c g F H σ Γ) (r : relR1 c g σ F H Γ v (k d))
    (h : Post c g σ E (fun F H Γ b a => RRow c g σ F H Γ b a) Q F ((fr Γ).bind fun ds Γ2 => .ok (k d :: ds) Γ2)) : rOf X.K E fr σ H fun xs H2 => Q (v :: xs) H2 := by
  refine ⟨c, gh2 g F H σ Γ, F, Γ, hK, R.reghost, (Post.under (rel2 := fun F' H' Γ' b a => RRow c (gh2 g F H σ Γ) σ F' H' Γ' b a) R h).imp fun xs H2 ⟨F2, Γ2, rs, R2', R2, s2, r2, h2⟩ => ?_⟩
  refine h2 _ H2 F2 R2 (Same.refl _) (.cons (relR1.keep R r R2' s2) (RRow.up R r2) fun hf i w q e1 e2 hq z => ?_)
  obtain ⟨p, o, ev, hp, ht, n4, n3, n1, n2, n5⟩ := relR1.addr r hf
  obtain ⟨p', o', ev', hp', ht', m4, m3, m1, m2, m5⟩ := relR1.addr (RRow.get r2 e1 e2) hq
  have : p = p' := by rw [ev, ev'] at z; exact V.ref.inj z
  subst this
  exact m3 _ ⟨.inl (gh2_at hp n5), ht⟩
theorem sr_v {es : List Expr} {fr : M (List RV)} (ha : PE X e (tOf X.K E fa)) (hr : PA X es (rOf X.K E fr)) (hs : starEach (e :: es) X.env = (false, eval e X.env) :: starEach es X.env := by rfl) : PA X (e :: es) (rOf X.K E (consR .v fa fr)) :=
  PA_imp (pa_cons ha hr hs) fun σ H Q ⟨c, g, F, Γ, hK, R, h⟩ => ⟨c, g, F, Γ, hK, R, (Post.split (rel2 := relD c) h).imp fun x H1 ⟨F1, Γ1, d1, R1, s1, r1, h1⟩ => consR_to (k := .v) (tr := rOf X.K E fr) hK R1 r1 h1⟩
theorem sr_l {es : List Expr} {f : M (List D)} {fr : M (List RV)} (ha : PE X e (lOf X.K E f)) (hr : PA X es (rOf X.K E fr)) (hs : starEach (e :: es) X.env = (false, eval e X.env) :: starEach es X.env := by rfl) : PA X (e :: es) (rOf X.K E (consR .l f fr)) :=
  PA_imp (pa_cons ha hr hs) fun σ H Q ⟨c, g, F, Γ, hK, R, h⟩ => ⟨c, g, F, Γ, hK, R, (Post.split (rel2 := relL c g σ) h).imp fun x H1 ⟨F1, Γ1, d1, R1, s1, r1, h1⟩ => consR_to (k := .l) (tr := rOf X.K E fr) hK R1 r1 h1⟩
theorem sr_k {es : List Expr} {f : M (List (Key × D))} {fr : M (List RV)} (ha : PE X e (kOf X.K E f)) (hr : PA X es (rOf X.K E fr)) (hs : starEach (e :: es) X.env = (false, eval e X.env) :: starEach es X.env := by rfl) : PA X (e :: es) (rOf X.K E (consR .k f fr)) :=
  PA_imp (pa_cons ha hr hs) fun σ H Q ⟨c, g, F, Γ, hK, R, h⟩ => ⟨c, g, F, Γ, hK, R, (Post.split (rel2 := relK c g σ) h).imp fun x H1 ⟨F1, Γ1, d1, R1, s1, r1, h1⟩ => consR_to (k := .k) (tr := rOf X.K E fr) hK R1 r1 h1⟩
end
def setsR : List Nat → List RV → G → G
  | i :: is, r :: rs, Γ => setsR is rs (setV i r.slot Γ)
  | _, _, Γ => Γ
def setsS : List Nat → List V → St → St
  | i :: is, v :: vs, σ => setsS is vs (σ.set i (some v))
  | _, _, σ => σ
section
variable {c : RC} {g : Gh} {F H : Hp} {σ : St} {Γ : G}
theorem relR1.put (R : Rel c g F H σ Γ) {v : V} {r : RV} (i : Nat) (h : relR1 c g σ F H Γ v r) : Rel c g F H (σ.set i (some v)) (setV i r.slot Γ) := by
  cases r with
  | v d => exact R.put (s := .val d) ⟨v, rfl, h⟩ fun z => Bool.noConfusion z
  | l ds => exact putL i R h
  | k kvs => exact putK i R h
theorem not_owned_put {v : V} {s : Slot} {i : Nat} {p : Addr} (hl : σ.length = Γ.env.length) (h : ¬ Owned σ Γ p) (hv : s.isOwn = true → v ≠ .ref p) : ¬ Owned (σ.set i (some v)) (setV i s Γ) p := fun ⟨j, t, e1, e2, e3⟩ => by
  have e1' : (Γ.env.set i s)[j]? = some t := e1
  by_cases hij : i = j
  · subst hij
    have hlt : i < (Γ.env.set i s).length := (List.getElem?_eq_some_iff.mp e1').1
    rw [List.length_set] at hlt
    rw [List.getElem?_set_self hlt] at e1'
    cases e1'
    rw [List.getElem?_set_self (by rw [hl]; exact hlt)] at e3
    exact hv e2 (Option.some.inj (Option.some.inj e3))
  · rw [List.getElem?_set_ne hij] at e1' e3
    exact h ⟨j, t, e1', e2, e3⟩
theorem relR1.over (R : Rel c g F H σ Γ) {v w : V} {r q : RV} {i : Nat} (h : relR1 c g σ F H Γ w q) (hv : r.fresh = true → q.fresh = true → v ≠ w) : relR1 c g (σ.set i (some v)) F H (setV i r.slot Γ) w q := by
  have fr : r.slot.isOwn = true → r.fresh = true := by cases r <;> exact id
  cases q with
  | v d => exact h
  | l ds =>
    obtain ⟨p, vs, e, hp, rr, n4, n3, n1, n2, n5⟩ := h
    exact ⟨p, vs, e, hp, rr, n4, n3, n1, n2, not_owned_put R.len n5 fun z => by rw [← e]; exact hv (fr z) rfl⟩
  | k kvs =>
    obtain ⟨p, ks, vs, ds, e, hp, l, rr, ek, n4, n3, n1, n2, n5⟩ := h
    exact ⟨p, ks, vs, ds, e, hp, l, rr, ek, n4, n3, n1, n2, not_owned_put R.len n5 fun z => by rw [← e]; exact hv (fr z) rfl⟩
theorem RRow.over (R : Rel c g F H σ Γ) {v : V} {r : RV} {i : Nat} : ∀ {vs : List V} {rs : List RV}, RRow c g σ F H Γ vs rs → (r.fresh = true → ∀ (j : Nat) (w : V) (q : RV), vs[j]? = some w → rs[j]? = some q → q.fresh = true → v ≠ w) → RRow c g (σ.set i (some v)) F H (setV i r.slot Γ) vs rs
  | _, _, .nil, _ => .nil
  | _, _, .cons h t n, hv => .cons (h.over R fun z1 z2 => hv z1 0 _ _ rfl rfl z2) (RRow.over R t fun z j w q e1 e2 => hv z (j + 1) w q e1 e2) n
theorem RRow.put : ∀ {is : List Nat} {vs : List V} {rs : List RV} {σ : St} {Γ : G}, Rel c g F H σ Γ → RRow c g σ F H Γ vs rs → Rel c g F H (setsS is vs σ) (setsR is rs Γ)
  | [], _, _, _, _, R, _ => R
  | _ :: _, _, _, _, _, R, .nil => R
  | i :: is, _, _, _, _, R, .cons h t n => RRow.put (is := is) (h.put R i) (RRow.over R t n)
theorem relR1.lay0 (R : Rel c g F H σ Γ) {v : V} {r : RV} {p : Addr} {o : HO} (hp : H p = none) (h : relR1 c g σ F H Γ v r) : relR1 c g σ F (upd H p o) Γ v r := by
  cases r with
  | v d => exact h
  | l ds => obtain ⟨q, vs, e, hq, rr, n⟩ := h; exact ⟨q, vs, e, by rw [upd_ne (ne_of_none hq hp)]; exact hq, rr, n⟩
  | k kvs => obtain ⟨q, ks, vs, ds, e, hq, n⟩ := h; exact ⟨q, ks, vs, ds, e, by rw [upd_ne (ne_of_none hq hp)]; exact hq, n⟩
theorem RRow.lay0 (R : Rel c g F H σ Γ) {p : Addr} {o : HO} (hp : H p = none) : ∀ {vs : List V} {rs : List RV}, RRow c g σ F H Γ vs rs → RRow c g σ F (upd H p o) Γ vs rs
  | _, _, .nil => .nil
  | _, _, .cons h t n => .cons (h.lay0 R hp) (RRow.lay0 R hp t) n
end
def parS (is : List Nat) (f : M (List RV)) : SM := fun Γ => (f Γ).bind fun rs Γ1 => if rs.length = is.length then .ok .nx (setsR is rs Γ1) else .stuck
section
variable {X : Cx} {E : XK} {a b d : Expr} {f : M (List RV)} {pos : Pos}
theorem ss_par2 {i j : Nat} {x y : Str} {px py pt : Pos} {kt k2 pt2} (hc : X.calm = true) (hN : X.N.Nodup) (hi : X.N[i]? = some x) (hj : X.N[j]? = some y) (hij : i ≠ j)
    (hx : X.env.scope.names.lookup x = some .local) (hy : X.env.scope.names.lookup y = some .local) (ha : PA X [a, b] (rOf X.K E f))
    (hw : swappedStores [.Tuple [.Name x px, .Name y py] kt pt] (.Tuple [a, b] k2 pt2) X.env = pure (some [x, y]))
    (hs : swapsWithSole [.Tuple [.Name x px, .Name y py] kt pt] (.Tuple [a, b] k2 pt2) pos.line X.env = pure false := by rfl) :
    PS X (.Assign [.Tuple [.Name x px, .Name y py] kt pt] (.Tuple [a, b] k2 pt2) pos) (sOf X.K E (parS [i, j] f)) :=
  PS_imp (ps_par hc hN hi hj hij hx hy ha hw hs) fun Dd σ H ⟨c, g, F, Γ, hK, R, h⟩ => ⟨c, g, F, Γ, hK, R, (PostS.split (rel := fun F H Γ b a => RRow c g σ F H Γ b a) h).imp fun vs H1 ⟨F1, Γ1, rs, R1, s1, r1, h1⟩ => by
    split at h1
    · rename_i hl
      have hv := r1.length
      rw [hl] at hv
      match vs, hv with
      | [v, w], _ => exact ⟨v, w, rfl, h1 _ H1 F1 (r1.put (is := [i, j]) R1) (Same.refl _)⟩
    · exact h1.elim⟩
/-- names as targets, of a row -/
def gRow (K : PySem.W.Frag) (is : List Nat) : TGs := fun vs σ H Q => ∃ c g F Γ rs, c.K = K ∧ Rel c g F H σ Γ ∧ RRow c g σ F H Γ vs rs ∧ rs.length = is.length ∧ ∀ σ', Rel c g F H σ' (setsR is rs Γ) → Q σ' H
theorem sgr_nil : PGs X [] (gRow X.K []) := PGs_imp pgs_nil fun vs σ H Q ⟨c, g, F, Γ, rs, hK, R, r, hl, q⟩ => by
  cases r with
  | nil => exact ⟨rfl, q σ R⟩
  | cons _ _ _ => cases hl
theorem sgr_cons {i : Nat} {x : Str} {is : List Nat} {es : List Expr} (hN : X.N.Nodup) (hi : X.N[i]? = some x) (hx : Loc X.env.scope x) (h2 : PGs X es (gRow X.K is)) (hf : X.fn x = true ∨ X.env.scope.names.lookup x = some .local := by first | exact .inl rfl | exact .inr rfl | assumption)
    (hs : (assignEach (.Name x pos :: es) X.env).map (·.2) = assign (.Name x pos) X.env :: (assignEach es X.env).map (·.2) := by rfl) : PGs X (.Name x pos :: es) (gRow X.K (i :: is)) :=
  PGs_imp (pgs_cons (pg_name hN hi hx hf) h2 hs) fun vs σ H Q ⟨c, g, F, Γ, rs, hK, R, r, hl, q⟩ => by
    cases r with
    | nil => cases hl
    | @cons v vs r rs h t n => exact ⟨v, vs, rfl, c, g, F, _, rs, hK, h.put R i, RRow.over R t n, by simpa using hl, q⟩
theorem ss_parT {is : List Nat} {es ts : List Expr} {kt x1 : Nat} {pt pt2 : Pos} {n : Nat} (hc : X.calm = true) (ha : PA X es (rOf X.K E f)) (hg : PGs X ts (gRow X.K is)) (hn : (assignEach ts X.env).length = n := by rfl) (hn2 : is.length = n := by rfl) (hz : n ≤ 100 := by decide)
    (hst : (assignEach ts X.env).findIdx? (·.1) = none := by rfl)
    (hs : swapsWithSole [.Tuple ts kt pt] (.Tuple es x1 pt2) pos.line X.env = pure false := by rfl) (hw : swappedStores [.Tuple ts kt pt] (.Tuple es x1 pt2) X.env = pure none := by rfl)
    (h1 : (assignEach [.Tuple ts kt pt] X.env).map (·.2) = [assign (.Tuple ts kt pt) X.env] := by rfl) : PS X (.Assign [.Tuple ts kt pt] (.Tuple es x1 pt2) pos) (sOf X.K E (parS is f)) :=
  PS_imp (ps_asg (pe_tup ha) (pg_tup hc hg hn hst) hs hw h1) fun Dd σ H ⟨c, g, F, Γ, hK, R, h⟩ => ⟨c, g, F, Γ, hK, R, (PostS.split (rel := fun F H Γ b a => RRow c g σ F H Γ b a) h).imp fun vs H1 ⟨F1, Γ1, rs, R1, s1, r1, h1⟩ => by
    split at h1
    · rename_i hl
      have hv := r1.length
      refine ⟨by rw [hv, hl, hn2, ← line_ok]; omega, fun p hp => ⟨p, vs, rfl, .inl (.inl upd_same), by rw [hv, hl, hn2], c, g, F1, Γ1, rs, hK, R1.lay0 hp, r1.lay0 R1 hp, hl, fun σ' R' => h1 _ _ F1 R' (Same.refl _)⟩⟩
    · exact h1.elim⟩
end
end DS
set_option maxRecDepth 100000
set_option maxHeartbeats 4000000
namespace DS
open PySem PySem.Spec L2
def keyD : D → Option Key
  | .int i => some (.inl i)
  | .str x => some (.inr x)
  | _ => none
theorem key_rep {c : RC} {F : Hp} {v : V} {d : D} {k : Key} (r : Rep c F v d) (h : keyD d = some k) : v = kV k := by
  cases r with
  | int i => cases h; rfl
  | str x => cases h; rfl
  | _ => cases h
def dGet (kvs : List (Key × D)) (k : Key) : Option D := (kvs.find? fun kv => decide (kv.1 = k)).map (·.2)
def dPut (kvs : List (Key × D)) (k : Key) (d : D) : List (Key × D) :=
  if (kvs.any fun kv => decide (kv.1 = k)) = true then kvs.map (fun kv => if kv.1 = k then (kv.1, d) else kv) else kvs ++ [(k, d)]
section
variable {c : RC} {F : Hp}
theorem zip_get {k : Key} : ∀ {ks : List Key} {vs : List V} {ds : List D}, ks.length = vs.length → Reps c F vs ds → (∃ v d, valV (List.zip ks vs) k = some v ∧ dGet (List.zip ks ds) k = some d ∧ Rep c F v d) ∨ (valV (List.zip ks vs) k = none ∧ dGet (List.zip ks ds) k = none)
  | [], [], _, _, .nil => .inr ⟨rfl, rfl⟩
  | q :: ks, v :: vs, d :: ds, hl, .cons r rs => by
    by_cases e : q = k
    · exact .inl ⟨v, d, valV_pos (p := (q, v)) e, by show dGet ((q, d) :: List.zip ks ds) k = some d; simp [dGet, List.find?_cons, e], r⟩
    · have e1 : valV (List.zip (q :: ks) (v :: vs)) k = valV (List.zip ks vs) k := valV_neg (p := (q, v)) e
      have e2 : dGet (List.zip (q :: ks) (d :: ds)) k = dGet (List.zip ks ds) k := by show dGet ((q, d) :: List.zip ks ds) k = _; simp [dGet, List.find?_cons, e]
      rw [e1, e2]
      exact zip_get (by simpa using hl) rs
theorem zip_any {α β : Type} {k : Key} : ∀ {ks : List Key} {vs : List α} {ds : List β}, ks.length = vs.length → vs.length = ds.length → ((List.zip ks vs).any fun kv => decide (kv.1 = k)) = ((List.zip ks ds).any fun kv => decide (kv.1 = k))
  | [], _, _, _, _ => by simp
  | q :: ks, v :: vs, d :: ds, h1, h2 => by
    exact congrArg (decide (q = k) || ·) (zip_any (ks := ks) (vs := vs) (ds := ds) (by simpa using h1) (by simpa using h2))
theorem zip_repl {k : Key} {v : V} {d : D} (r : Rep c F v d) : ∀ {ks : List Key} {vs : List V} {ds : List D}, ks.length = vs.length → Reps c F vs ds →
    ∃ vs' ds', (List.zip ks vs).map (fun kv => if kv.1 = k then (kv.1, v) else kv) = List.zip ks vs' ∧ (List.zip ks ds).map (fun kv => if kv.1 = k then (kv.1, d) else kv) = List.zip ks ds' ∧ ks.length = vs'.length ∧ Reps c F vs' ds'
  | [], [], _, _, .nil => ⟨[], [], rfl, rfl, rfl, .nil⟩
  | q :: ks, w :: vs, e :: ds, hl, .cons r1 rs => by
    obtain ⟨vs', ds', e1, e2, e3, e4⟩ := zip_repl (k := k) r (ks := ks) (vs := vs) (ds := ds) (by simpa using hl) rs
    by_cases h : q = k
    · refine ⟨v :: vs', d :: ds', ?_, ?_, by simp [e3], .cons r e4⟩
      · show (if q = k then (q, v) else (q, w)) :: _ = (q, v) :: _
        rw [if_pos h]; exact congrArg _ e1
      · show (if q = k then (q, d) else (q, e)) :: _ = (q, d) :: _
        rw [if_pos h]; exact congrArg _ e2
    · refine ⟨w :: vs', e :: ds', ?_, ?_, by simp [e3], .cons r1 e4⟩
      · show (if q = k then (q, v) else (q, w)) :: _ = (q, w) :: _
        rw [if_neg h]; exact congrArg _ e1
      · show (if q = k then (q, d) else (q, e)) :: _ = (q, e) :: _
        rw [if_neg h]; exact congrArg _ e2
theorem zip_put {k : Key} {v : V} {d : D} (r : Rep c F v d) {ks : List Key} {vs : List V} {ds : List D} (hl : ks.length = vs.length) (rs : Reps c F vs ds) :
    ∃ ks' vs' ds', L2.putK (List.zip ks vs) k v = List.zip ks' vs' ∧ dPut (List.zip ks ds) k d = List.zip ks' ds' ∧ ks'.length = vs'.length ∧ Reps c F vs' ds' := by
  unfold L2.putK dPut
  rw [zip_any (ds := ds) hl rs.length]
  by_cases h : ((List.zip ks ds).any fun kv => decide (kv.1 = k)) = true
  · rw [if_pos h, if_pos h]
    obtain ⟨vs', ds', e1, e2, e3, e4⟩ := zip_repl (k := k) r hl rs
    exact ⟨ks, vs', ds', e1, e2, e3, e4⟩
  · rw [if_neg h, if_neg h]
    refine ⟨ks ++ [k], vs ++ [v], ds ++ [d], ?_, ?_, by simp [hl], rs.append (.cons r .nil)⟩
    · rw [List.zip_append hl]; rfl
    · rw [List.zip_append (by rw [hl, rs.length])]; rfl
end
/-- a dict's name, looked at -/
def peekK (i : Nat) (Γ : G) : Option (List (Key × D)) := match Γ.env[i]? with
  | some (.ownd kvs) => some kvs
  | some (.val (.dic kvs)) => some kvs
  | _ => none
theorem Rel.peekd {c : RC} {g : Gh} {F H : Hp} {σ : St} {Γ : G} (R : Rel c g F H σ Γ) {i : Nat} {kvs : List (Key × D)} (h : peekK i Γ = some kvs) : ∃ p ks vs ds, σ[i]? = some (some (.ref p)) ∧ H p = some (.dK (List.zip ks vs)) ∧ ks.length = vs.length ∧ Reps c F vs ds ∧ kvs = List.zip ks ds := by
  unfold peekK at h
  split at h
  · cases h
    rename_i hi
    obtain ⟨o, eo, p, ks, vs, ds, e1, h1, l, r, ek, _⟩ := R.slot i _ hi
    exact ⟨p, ks, vs, ds, by rw [eo, e1], h1, l, r, ek⟩
  · cases h
    rename_i hi
    obtain ⟨o, eo, v, e1, r⟩ := R.slot i _ hi
    generalize hd : D.dic kvs = d at r
    cases r with
    | @dic p ks xs ds hp hl rr => cases hd; exact ⟨p, ks, xs, ds, by rw [eo, e1], R.sub _ _ hp, hl, rr, rfl⟩
    | _ => cases hd
  · cases h
section
variable {X : Cx} {E : XK} {a b e : Expr} {fa fb : M D} {pos : Pos}
/-- key in name, key not in name -/
def dinP (neg : Bool) (i : Nat) (fa : M D) : M D := fun Γ => (fa Γ).bind fun y Γ1 => match keyD y, peekK i Γ1 with
  | some k, some kvs => .ok (.bl (xor neg (dGet kvs k).isSome)) Γ1
  | _, _ => .stuck
theorem din_to {i : Nat} {neg : Bool} {σ : St} {H : Hp} {Q : VK} (h : tOf X.K E (dinP neg i fa) σ H Q) :
    tOf X.K E fa σ H fun y H1 => tVar i σ H1 fun x H2 => ∃ a o, x = .ref a ∧ DGet H2 a y o ∧ Q (.bl (xor neg o.isSome)) H2 := by
  obtain ⟨c, g, F, Γ, hK, R, h⟩ := h
  refine ⟨c, g, F, Γ, hK, R, (Post.split (rel2 := relD c) h).imp fun y H1 ⟨F1, Γ1, d, R1, s1, r1, h1⟩ => ?_⟩
  split at h1
  · rename_i k kvs ek ep
    obtain ⟨p, ks, vs, ds, e1, hp, hl, rr, rfl⟩ := R1.peekd ep
    have ey := key_rep r1 ek
    subst ey
    refine ⟨_, e1, p, valV (List.zip ks vs) k, rfl, DGet.k hp, ?_⟩
    have es : (valV (List.zip ks vs) k).isSome = (dGet (List.zip ks ds) k).isSome := by
      rcases zip_get (k := k) hl rr with ⟨v, d, q1, q2, _⟩ | ⟨q1, q2⟩
      · rw [q1, q2]; rfl
      · rw [q1, q2]; rfl
    rw [es]
    exact h1 _ H1 F1 R1 (Same.refl _) (.bl _)
  · exact h1.elim
theorem te_dnotin (i : Nat) {x : Str} {px : Pos} (hu : X.A.units + 1 < cLine) (ha : PE X a (tOf X.K E fa)) (hm : behindInMarks .NotIn (.Name x px) = false := by with_unfolding_all rfl) (hN : X.N[i]? = some x := by rfl) (hv : Vis X.env.scope x := by first | exact Or.inl rfl | exact Or.inr (Or.inl rfl) | exact Or.inr (Or.inr rfl)) (hd : (x == ("__debug__" : Str)) = false := by decide)
    (hcd : (x == ("__classdict__" : Str)) = false := by decide) : PT X (.Compare a [.NotIn] [.Name x px] pos) (bOf X.K E (boolM (dinP true i fa))) :=
  PT_imp (pt_cmp (pc_dnotin hu ha (pe_var hN hv hd hcd)) hm) fun σ H Q h => by
    obtain ⟨c, g, F, Γ, hK, R, h⟩ := din_to (bool_to h)
    refine ⟨c, g, F, Γ, hK, R, h.imp fun y H1 h1 => ?_⟩
    obtain ⟨v, e1, p, o, e2, dg, k, ek, q⟩ := h1
    refine ⟨v, e1, p, o, e2, dg, ?_⟩
    cases ek
    exact ⟨_, rfl, by simpa using q⟩
/-- name[e], name a dict -/
def dixP (i : Nat) (fb : M D) : M D := fun Γ => match peekK i Γ with
  | some _ => (fb Γ).bind fun y Γ1 => match keyD y, peekK i Γ1 with
    | some k, some kvs => liftO (dGet kvs k) Γ1
    | _, _ => .stuck
  | none => .stuck
theorem se_dixP (i : Nat) {x : Str} {px : Pos} (hu : X.A.units + 1 < cLine) (hb : PE X b (tOf X.K E fb)) (hs : NoSl b := by exact fun _ _ => rfl) (hN : X.N[i]? = some x := by rfl) (hv : Vis X.env.scope x := by first | exact Or.inl rfl | exact Or.inr (Or.inl rfl) | exact Or.inr (Or.inr rfl)) (hd : (x == ("__debug__" : Str)) = false := by decide)
    (hcd : (x == ("__classdict__" : Str)) = false := by decide) : PE X (.Subscript (.Name x px) b pos) (tOf X.K E (dixP i fb)) :=
  PE_imp (pe_dget hu (pe_var hN hv hd hcd) hb hs) fun σ H Q ⟨c, g, F, Γ, hK, R, h⟩ => by
    unfold dixP at h
    split at h
    · rename_i k0 hp0
      obtain ⟨p, ks0, vs0, ds0, e1, _⟩ := R.peekd hp0
      refine ⟨_, e1, c, g, F, Γ, hK, R, (Post.split (rel2 := relD c) h).imp fun y H1 ⟨F1, Γ1, d, R1, s1, r1, h1⟩ => ?_⟩
      split at h1
      · rename_i k kvs ek ep
        obtain ⟨p', ks, vs, ds, e2, hp, hl, rr, rfl⟩ := R1.peekd ep
        rw [e1] at e2
        cases e2
        have ey := key_rep r1 ek
        subst ey
        unfold liftO at h1
        rcases zip_get (k := k) hl rr with ⟨v, d', q1, q2, q3⟩ | ⟨q1, q2⟩
        · rw [q2] at h1
          exact ⟨p, v, rfl, by rw [← q1]; exact DGet.k hp, h1 _ H1 F1 R1 (Same.refl _) q3⟩
        · rw [q2] at h1; exact h1.elim
      · exact h1.elim
    · exact h.elim
/-- name[k] = v, the frame's own dict -/
def dputM (i : Nat) (fk fv : M D) : SM := fun Γ => (fv Γ).bind fun v Γ1 => match Γ1.env[i]? with
  | some (.ownd _) => (fk Γ1).bind fun y Γ2 => match keyD y, Γ2.env[i]? with
    | some k, some (.ownd kvs) => if kvs.length < 16777216 then .ok .nx (setV i (.ownd (dPut kvs k v)) Γ2) else .stuck
    | _, _ => .stuck
  | _ => .stuck
theorem zip_len {α β γ : Type} {ks : List α} {vs : List β} {ds : List γ} (h1 : ks.length = vs.length) (h2 : vs.length = ds.length) : (List.zip ks vs).length = (List.zip ks ds).length := by
  rw [List.length_zip, List.length_zip, h1, h2]
theorem ss_dput (i : Nat) {x : Str} {px pos' : Pos} {fk fv : M D} {value key : Expr} (hu : X.A.units + 1 < cLine) (hk : PE X key (tOf X.K E fk)) (hval : PE X value (tOf X.K E fv)) (hs : swapsWith value (some (.Subscript (.Name x px) key pos')) pos.line X.env = pure false := by rfl)
    (hN : X.N[i]? = some x := by rfl) (hv : Vis X.env.scope x := by first | exact Or.inl rfl | exact Or.inr (Or.inl rfl) | exact Or.inr (Or.inr rfl)) (hd : (x == ("__debug__" : Str)) = false := by decide) (hcd : (x == ("__classdict__" : Str)) = false := by decide) :
    PS X (.Assign [.Subscript (.Name x px) key pos'] value pos) (sOf X.K E (dputM i fk fv)) :=
  PS_imp (ps_dput hu (pe_var hN hv hd hcd) hk hval hs) fun Dd σ H ⟨c, g, F, Γ, hK, R, h⟩ => ⟨c, g, F, Γ, hK, R, (PostS.split (rel := relD c) h).imp fun v H1 ⟨F1, Γ1, d, R1, s1, r1, h1⟩ => by
    split at h1
    · rename_i kvs0 hi0
      obtain ⟨o, eo, p, ks0, vs0, ds0, e1, _⟩ := R1.slot i _ hi0
      subst e1
      refine ⟨_, eo, c, g, F1, Γ1, hK, R1, (PostS.split (rel := relD c) h1).imp fun y H2 ⟨F2, Γ2, d2, R2, s2, r2, h2⟩ => ?_⟩
      split at h2
      · rename_i k kvs ek hi
        obtain ⟨o', eo', p', ks, vs, ds, e2, hp, hl, rr, rfl, n1, n2, n3, n4⟩ := R2.slot i _ hi
        subst e2
        rw [eo] at eo'
        cases eo'
        have ey := key_rep r2 ek
        subst ey
        split at h2
        · rename_i hz
          obtain ⟨ks', vs', ds', q1, q2, q3, q4⟩ := zip_put (k := k) (Rep.mono s2 r1) hl rr
          refine ⟨p, _, rfl, DPut.k hp (by rw [zip_len hl rr.length, ← line_ok]; exact hz), h2 σ _ F2 (R2.mut hi rfl (s' := .ownd (dPut (List.zip ks ds) k d)) rfl eo ⟨p, ks', vs', ds', rfl, ?_, q3, q4, q2, n1, n2, n3, n4⟩) (Same.refl _)⟩
          rw [q1]; exact upd_same
        · exact h2.elim
      · exact h2.elim
    · exact h1.elim⟩
def newK (kvs : List (Key × D)) : M (List (Key × D)) := retM kvs
theorem sk_new : PE X (.Dict [] [] pos) (kOf X.K E (newK [])) := PE_imp pe_dnewK fun σ H Q ⟨c, g, F, Γ, hK, R, h⟩ p hp => by
  obtain ⟨n1, n2, n3, n4, n5⟩ := R.fresh hp
  exact h (.ref p) _ F (R.lay0 hp) (Same.refl _) ⟨p, [], [], [], rfl, upd_same, rfl, .nil, rfl, n4, n3, n1, n2, n5⟩
theorem sk_one {k v : Expr} {kk : Key} {vv : V} {d : D} (hk : PE X k (tC (kV kk))) (hv : PE X v (tC vv)) (hr : ∀ c F, c.K = X.K → Rep c F vv d) : PE X (.Dict [some k] [v] pos) (kOf X.K E (newK [(kk, d)])) :=
  PE_imp (pe_disp (pps_cons hk hv pps_nil) rfl rfl (by simp) (by simp)) fun σ H Q ⟨c, g, F, Γ, hK, R, h⟩ p hp => by
    obtain ⟨n1, n2, n3, n4, n5⟩ := R.fresh hp
    refine ⟨upd_same, [(kk, vv)], rfl, by simp, ?_⟩
    rw [upd_upd]
    exact h (.ref p) _ F (R.lay0 hp) (Same.refl _) ⟨p, [kk], [vv], [d], rfl, upd_same, rfl, .cons (hr c F hK) .nil, rfl, n4, n3, n1, n2, n5⟩
/-- a new dict becomes a value -/
def dicV (f : M (List (Key × D))) : M D := fun Γ => (f Γ).bind fun ds Γ1 => .ok (.dic ds) Γ1
theorem se_k {f : M (List (Key × D))} (h : PE X e (kOf X.K E f)) : PE X e (tOf X.K E (dicV f)) :=
  PE_imp h fun σ H Q ⟨c, g, F, Γ, hK, R, h⟩ => ⟨c, g, F, Γ, hK, R, (Post.split (rel2 := relK c g σ) h).imp fun v H1 ⟨F1, Γ1, ds, R1, s1, r1, h1⟩ => by
    obtain ⟨p, ks, vs, ds, rfl, hp, hl, r, rfl, n4, n3, n1, n2, n5⟩ := r1
    have s : Same F1 (upd F1 p (.dK (List.zip ks vs))) := same_upd n4
    exact h1 _ H1 _ (R1.frz1 hp n3 n4 n1 n2 n5) s (.dic upd_same hl (r.mono s))⟩
end
end DS
set_option maxRecDepth 100000
set_option maxHeartbeats 4000000
namespace DS
open PySem PySem.Spec L2
def dPutF (f : Str) (v : D) : List (Str × D) → List (Str × D)
  | [] => [(f, v)]
  | (g, x) :: r => if g = f then (g, v) :: r else (g, x) :: dPutF f v r
theorem zip_putF {c : RC} {F : Hp} {f : Str} {v : V} {d : D} (r : Rep c F v d) : ∀ {ks : List Str} {vs : List V} {ds : List D}, ks.length = vs.length → Reps c F vs ds →
    ∃ ks' vs' ds', L2.putF f v (List.zip ks vs) = List.zip ks' vs' ∧ dPutF f d (List.zip ks ds) = List.zip ks' ds' ∧ ks'.length = vs'.length ∧ Reps c F vs' ds'
  | [], [], _, _, .nil => ⟨[f], [v], [d], rfl, rfl, rfl, .cons r .nil⟩
  | q :: ks, w :: vs, e :: ds, hl, .cons r1 rs => by
    by_cases h : q = f
    · refine ⟨q :: ks, v :: vs, d :: ds, ?_, ?_, by simpa using hl, .cons r rs⟩
      · show (if q = f then (q, v) :: List.zip ks vs else (q, w) :: _) = (q, v) :: List.zip ks vs
        rw [if_pos h]
      · show (if q = f then (q, d) :: List.zip ks ds else (q, e) :: _) = (q, d) :: List.zip ks ds
        rw [if_pos h]
    · obtain ⟨ks', vs', ds', e1, e2, e3, e4⟩ := zip_putF (f := f) r (ks := ks) (vs := vs) (ds := ds) (by simpa using hl) rs
      refine ⟨q :: ks', w :: vs', e :: ds', ?_, ?_, by simp [e3], .cons r1 e4⟩
      · show (if q = f then (q, v) :: List.zip ks vs else (q, w) :: L2.putF f v (List.zip ks vs)) = (q, w) :: List.zip ks' vs'
        rw [if_neg h, e1]
      · show (if q = f then (q, d) :: List.zip ks ds else (q, e) :: dPutF f d (List.zip ks ds)) = (q, e) :: List.zip ks' ds'
        rw [if_neg h, e2]
/-- self.f = e, self the frame's own object -/
def fputM (i : Nat) (n : String) (f : Str) (fv : M D) : SM := fun Γ => (fv Γ).bind fun v Γ1 => match Γ1.env[i]? with
  | some (.owno m fs) => if m = n ∧ fs.length < 1000 then .ok .nx (setV i (.owno m (dPutF f v fs)) Γ1) else .stuck
  | _ => .stuck
inductive RI where
  | ok (fs : List (Str × D)) (S : DrawSt) | exc (n : String) (S : DrawSt) | stuck
abbrev FI := List D → DrawSt → RI
def envI (cls : String) (n : Nat) (args : List D) : List Slot := .owno cls [] :: env0 (n - 1) args
def runI (cls : String) (n : Nat) (body : SM) : FI := fun args S => match body ⟨envI cls n args, S⟩ with
  | .ok .nx Γ => match Γ.env[0]? with
    | some (Slot.owno m fs) => if m = cls then .ok fs Γ.ds else .stuck
    | _ => .stuck
  | .exc x S => .exc x S
  | _ => .stuck
/-- a heap without an address -/
def wo (H : Hp) (x : Addr) : Hp := fun b => if b = x then none else H b
theorem wo_ne {H : Hp} {x b : Addr} (h : b ≠ x) : wo H x b = H b := if_neg h
theorem wo_same {H : Hp} {x : Addr} : wo H x x = none := if_pos rfl
theorem wo_of {H : Hp} {x b : Addr} {o : HO} (h : wo H x b = some o) : b ≠ x ∧ H b = some o := by
  by_cases e : b = x
  · rw [e, wo_same] at h; cases h
  · exact ⟨e, by rw [wo_ne e] at h; exact h⟩
def gwo (H F : Hp) (x : Addr) : Gh := ⟨wo H x, F, wo H x, some x⟩
def spI (K : PySem.W.Frag) (cls : String) (n : Nat) (Fm : FI) : Sp := fun vs H Q E => ∃ c F ds S x dx ws, c.K = K ∧ vs = .ref x :: ws ∧ ds.length = n ∧ H x = some (.ins (ce K cls) dx []) ∧ F x = none ∧ x ≠ c.sa ∧ x ≠ c.sg ∧ Rel c (gwo H F x) F H [] ⟨[], S⟩ ∧ Reps c F ws ds ∧ match Fm ds S with
  | .ok fs S' => ∀ H' F', Rel c (gwo H F x) F' H' [] ⟨[], S'⟩ → Same F F' → F' x = none → (∃ dx' ks vs' ds', H' x = some (.ins (ce K cls) dx' (List.zip ks vs')) ∧ ks.length = vs'.length ∧ Reps c F' vs' ds' ∧ fs = List.zip ks ds') → Q .non H'
  | .exc y S' => ∀ H' F', Rel c (gwo H F x) F' H' [] ⟨[], S'⟩ → Same F F' → E (.ref (ce c.K y)) none H'
  | .stuck => False
def DFI (P : Program) (w : World) (K : PySem.W.Frag) (mg : Str → Option Value) (base : Heap) (x : String) (n k : Nat) (Fm : FI) : Prop :=
  ∃ (f : Addr) (fd : FuncData) (ps : List Str), ps.length = n + 1 ∧ mg (PySem.Str.ofString x) = some (.ref (ce K x)) ∧ Mk K (ce K x) f ∧ Binds K fd ps [] ∧ FnOk P w K mg base (L2.CX P w) k f fd ps (spI K x n Fm)
section
variable {X : Cx} {E : XK} {a b e : Expr} {fa fb : M D} {pos : Pos}
theorem ss_fld (i : Nat) (n : String) {x f : Str} {px pos' : Pos} {fv : M D} {value : Expr} (cl : Cls X.K (ce X.K n)) (na : NoAttr X.K (ce X.K n) f) (hval : PE X value (tOf X.K E fv)) (hs : swapsWith value (some (.Attribute (.Name x px) f pos')) pos.line X.env = pure false := by rfl)
    (hN : X.N[i]? = some x := by rfl) (hv : Vis X.env.scope x := by first | exact Or.inl rfl | exact Or.inr (Or.inl rfl) | exact Or.inr (Or.inr rfl)) (hd : (x == ("__debug__" : Str)) = false := by decide) (hcd : (x == ("__classdict__" : Str)) = false := by decide) :
    PS X (.Assign [.Attribute (.Name x px) f pos'] value pos) (sOf X.K E (fputM i n f fv)) :=
  PS_imp (ps_fld (pe_var hN hv hd hcd) hval hs) fun Dd σ H ⟨c, g, F, Γ, hK, R, h⟩ => ⟨c, g, F, Γ, hK, R, (PostS.split (rel := relD c) h).imp fun v H1 ⟨F1, Γ1, d, R1, s1, r1, h1⟩ => by
    split at h1
    · rename_i m fs hi
      split at h1
      · rename_i hz
        obtain ⟨rfl, hz⟩ := hz
        obtain ⟨o, eo, p, dx, ks, vs, ds, e1, hm, hp, hl, rr, rfl, n1, n2, n3, n4⟩ := R1.slot i _ hi
        subst e1
        obtain ⟨ks', vs', ds', q1, q2, q3, q4⟩ := zip_putF (f := f) r1 hl rr
        refine ⟨_, eo, p, ce c.K m, dx, _, rfl, hp, by rw [hK]; exact cl, by rw [hK]; exact na, by rw [zip_len hl rr.length]; exact hz, h1 σ _ F1 (R1.mut hi rfl (s' := .owno m (dPutF f d (List.zip ks ds))) rfl eo ⟨p, dx, ks', vs', ds', rfl, hm, ?_, q3, q4, q2, n1, n2, n3, n4⟩) (Same.refl _)⟩
        rw [q1]; exact upd_same
      · exact h1.elim
    · exact h1.elim⟩
theorem Rel.startI {c : RC} {F H : Hp} {S : DrawSt} {x dx : Addr} {cls : String} {vs : List V} {ds : List D} {y : Str} (N : List Str) (hx : H x = some (.ins (ce c.K cls) dx [])) (hF : F x = none) (n1 : x ≠ c.sa) (n2 : x ≠ c.sg) (R : Rel c (gwo H F x) F H [] ⟨[], S⟩) (r : Reps c F vs ds) :
    Rel c (gwo H F x) F H (L2.start (y :: N) (.ref x :: vs)) ⟨.owno cls [] :: env0 N.length ds, S⟩ := by
  have hl : vs.length = ds.length := Reps.length r
  have es : L2.start (y :: N) (.ref x :: vs) = some (.ref x) :: L2.start N vs := by simp [L2.start]
  have tail : ∀ (i : Nat) (s : Slot), (env0 N.length ds)[i]? = some s → s.isOwn = false ∧ ∃ o, (L2.start N vs)[i]? = some o ∧ SlotR c (gwo H F x) F H o s := fun i s e => by
    have e' : (ds.map Slot.val ++ List.replicate (N.length - ds.length) Slot.un)[i]? = some s := e
    unfold L2.start
    rw [List.getElem?_append] at e'
    rw [List.getElem?_append]
    simp only [List.length_map] at e' ⊢
    by_cases hi : i < ds.length
    · rw [if_pos hi, List.getElem?_map] at e'
      rw [if_pos (by omega), List.getElem?_map]
      cases hd : ds[i]? with
      | none => rw [hd] at e'; cases e'
      | some d =>
        rw [hd] at e'
        cases e'
        obtain ⟨v, hv, rv⟩ := Reps.get r hd
        rw [hv]
        exact ⟨rfl, _, rfl, v, rfl, rv⟩
    · rw [if_neg hi, List.getElem?_replicate] at e'
      split at e'
      · cases e'
        rename_i hlt
        rw [if_neg (by omega), List.getElem?_replicate, if_pos (by omega)]
        exact ⟨rfl, _, rfl, trivial⟩
      · cases e'
  refine ⟨R.sub, R.subF, R.fra, R.fz, by rw [es]; simp [L2.start, env0, hl], fun i s e => ?_, fun i j a s t hij e1 e2 h1 h2 _ _ => ?_, R.dst, R.tab, R.nt⟩
  · rw [es]
    cases i with
    | zero =>
      cases e
      refine ⟨_, rfl, x, dx, [], [], [], rfl, rfl, hx, rfl, .nil, rfl, hF, fun o q => ?_, n1, n2⟩
      rcases q.1 with q | q
      · exact (wo_of q).1 rfl
      · exact (wo_of q).1 rfl
    | succ i =>
      obtain ⟨_, o, eo, q⟩ := tail i s (by simpa using e)
      exact ⟨o, by simpa using eo, q⟩
  · exfalso
    cases i with
    | zero =>
      cases j with
      | zero => exact hij rfl
      | succ j => rw [(tail j t (by simpa using e2)).1] at h2; cases h2
    | succ i => rw [(tail i s (by simpa using e1)).1] at h1; cases h1
end
section
variable {P : Program} {w : World} {K : PySem.W.Frag} {mg : Str → Option Value} {base : Heap}
/-- THE RULE for __init__ -/
theorem dfi_ok {x : String} {y nm : Str} {qual : Str} {params : Arguments} {body : List Stmt} {scope : Scope} {fi : Addr} {fd : FuncData} {N ps : List Str} {n k : Nat} {Fm : FI} (F : FunD K nm qual params body scope [] [] fi fd) (S : FnScope (y :: N) ps scope) (hn : ps.length = n + 1)
    (gm : mg (PySem.Str.ofString x) = some (.ref (ce K x))) (mk : Mk K (ce K x) fi)
    (hb : ∀ (kV doc pm : Value) (an : Option Addr) (cdv ct : Value) (us : List Value), us.length = ps.length → bindArgs (PySem.W.fnOf nm qual params body scope .none kV doc pm an cdv ct) ⟨us, []⟩ = pure (ps.zip us)) (f : SM)
    (hbody : ∀ (cdv : Value) (A : Around) (outer : List Env) (s : Shared) (H : Hp) (E : XK), Room k (A.deeper (PyProof.Rows.envOfC qual scope s.heap.objs.size fi cdv)) →
      PSs (cxOf (L2.CX P w) P w K mg base (y :: N) qual scope fi cdv A outer s H E) body (sOf K E f))
    (hf : ∀ ds S, ds.length = n → Fm ds S ≠ .stuck → runI x (N.length + 1) f ds S = Fm ds S) : DFI P w K mg base x n (k + 1) Fm := by
  refine ⟨fi, fd, ps, hn, gm, mk, F.bindsN hb, F.ok S (fun vs H Q E h => ?_) fun cdv A outer s H vs Q E hr h => ⟨_, hbody cdv A outer s H E hr, ?_⟩⟩
  · obtain ⟨c, F, ds, S, p, dx, ws, _, rfl, hl, _, _, _, _, _, r, _⟩ := h
    rw [List.length_cons, Reps.length r, hl, hn]
  · obtain ⟨c, F, ds, S, p, dx, ws, hK, rfl, hl, hx, hF, n1, n2, R, r, h⟩ := h
    refine ⟨c, gwo H F p, F, _, hK, Rel.startI N (hK ▸ hx) hF n1 n2 R r, ?_⟩
    cases hm : Fm ds S with
    | stuck => rw [hm] at h; exact h.elim
    | ok fs S' =>
      rw [hm] at h
      have e := hf ds S hl (by rw [hm]; exact fun z => by cases z)
      rw [hm] at e
      unfold runI envI at e
      rw [Nat.add_sub_cancel] at e
      cases hr : f ⟨.owno x [] :: env0 N.length ds, S⟩ with
      | ok a Γ =>
        rw [hr] at e
        cases a with
        | nx =>
          dsimp only at e
          split at e
          · rename_i m fs' hi
            split at e
            · rename_i em
              subst em
              cases e
              intro σ H' F' R' s'
              obtain ⟨o, eo, p', dx', ks, vs', ds', e1, he, hp, hl', rr, rfl, m1, m2, m3, m4⟩ := R'.slot 0 _ hi
              have he' : some p = some p' := he
              cases he'
              exact h H' F' R'.drop s' m1 ⟨dx', ks, vs', ds', by rw [← hK]; exact hp, hl', rr, rfl⟩
            · cases e
          · cases e
        | ret d' => cases e
        | bk => cases e
        | ct => cases e
      | exc n S => rw [hr] at e; cases e
      | stuck => rw [hr] at e; cases e
    | exc y S' =>
      rw [hm] at h
      have e := hf ds S hl (by rw [hm]; exact fun z => by cases z)
      rw [hm] at e
      unfold runI envI at e
      rw [Nat.add_sub_cancel] at e
      cases hr : f ⟨.owno x [] :: env0 N.length ds, S⟩ with
      | ok a Γ =>
        rw [hr] at e
        cases a <;> first | cases e | (dsimp only at e; split at e <;> first | (split at e <;> cases e) | cases e)
      | exc n S => rw [hr] at e; cases e; exact fun H' F' R' s' => h H' F' R' s'
      | stuck => rw [hr] at e; cases e
/-- behind the making of an instance -/
theorem Rel.backI {c : RC} {g : Gh} {F F' H H1 H' : Hp} {σ : St} {Γ : G} {S' : DrawSt} {x : Addr} {u : HO} (R : Rel c g F H σ Γ) (hx : H x = none) (R1 : Rel c g F H1 σ Γ) (old : ∀ b o, H b = some o → H1 b = some o) (R' : Rel c (gwo H1 F x) F' H' [] ⟨[], S'⟩) (s : Same F F') (hF : F' x = none) (hu : H' x = some u) (hnt : NT u) :
    Rel c g (upd F' x u) H' σ { Γ with ds := S' } ∧ Same F' (upd F' x u) := by
  have keep : ∀ b o, H b = some o → (wo H1 x) b = some o := fun b o e => by rw [wo_ne (ne_of_none e hx)]; exact old b o e
  have hH : ∀ b o, H b = some o → NT o → b ≠ c.sa → b ≠ c.sg → H' b = some o := fun b o e hn => R'.fra b o ⟨.inl (keep b o e), hn⟩
  have hF' : ∀ b o, H b = some o → NT o → F b = none → F' b = none := fun b o e => R'.fz b o (keep b o e)
  obtain ⟨sc', d1, d2, d3, d4, d5, d6⟩ := id R'.dst
  have RB : Rel c g F' H' σ { Γ with ds := S' } := by
    refine ⟨R'.sub, R.subF.trans s, fun b o e h1 h2 => hH b o (R.fra b o e h1 h2) e.2 h1 h2, fun b o e hn h0 => ?_, R.len, fun i t e => ?_, R.dis, R'.dst, R'.tab, R'.nt⟩
    · by_cases h1 : b = c.sa
      · rw [h1]; exact d4
      · by_cases h2 : b = c.sg
        · rw [h2]; exact d5
        · exact hF' b o (R.fra b o ⟨.inl e, hn⟩ h1 h2) hn (R.fz b o e hn h0)
    · obtain ⟨o, eo, q⟩ := R.slot i t e
      refine ⟨o, eo, q.mono (fun b o e h1 h2 => hH b o (R.fra b o e h1 h2) e.2 h1 h2) s fun a ht ea => ?_⟩
      obtain ⟨⟨u, hu, hpl⟩, hFa, _, n1, n2⟩ := R.owned ⟨i, t, e, ht, by rw [eo, ea]⟩
      exact ⟨by rw [hu]; exact hH a u hu hpl.1 n1 n2, hF' a u hu hpl.1 hFa⟩
  obtain ⟨n1, n2, n3, n4, n5⟩ := R.fresh hx
  refine ⟨RB.frz1 hu n3 hF n1 n2 n5 hnt, same_upd hF⟩
def makeM (cls : String) (n : Nat) (Fm : FI) (fa : M (List D)) : M D := fun Γ => (fa Γ).bind fun ds Γ1 => if ds.length = n then match Fm ds Γ1.ds with
  | .ok fs S => .ok (.obj cls fs) { Γ1 with ds := S }
  | .exc x S => .exc x S
  | .stuck => .stuck
  else .stuck
end
section
variable {X : Cx} {E : XK} {pos : Pos}
theorem se_make {x : String} {e : Expr} {es : List Expr} {n j k : Nat} {Fm : FI} {fa : M (List D)} {p : Pos} (G : DFI X.prog X.w X.K X.mg X.base x n k Fm) (hr : Room (j + 1) X.A) (hk : k ≤ j) (hx : Passes (L2.CX X.prog X.w) X E) (hg : Gl X (PySem.Str.ofString x)) (ha : PA X (e :: es) (aOf X.K E fa))
    (hdb : (PySem.Str.ofString x == ("__debug__" : Str)) = false := by decide) (he : starEach (e :: es) X.env = (false, eval e X.env) :: starEach es X.env := by rfl) (hpl : (backTo pos (starEach es X.env)).any (·.1) = false := by rfl) :
    PE X (.Call (.Name (PySem.Str.ofString x) p) (e :: es) [] pos) (tOf X.K E (makeM x n Fm fa)) := by
  obtain ⟨fi, fd, ps, hn, gm, mk, hb, ok⟩ := G
  refine PE_imp (pe_make (dvs := []) mk ok (hr.mono (Nat.succ_le_succ hk)) hg gm hb .nil hx ha hdb he hpl) fun σ H Q ⟨c, g, F, Γ, hK, R, h⟩ => ⟨c, g, F, Γ, hK, R, (Post.split (rel2 := relA c) h).imp fun vs H1 ⟨F1, Γ1, ds, R1, s1, r1, h1⟩ => ?_⟩
  rw [List.append_nil]
  intro a dx ha0 hd0 hne
  split at h1
  · rename_i hl
    have hfr := R1.fresh ha0
    have RA := R1.lay0 (o := .own a) hd0
    have hx1 : (upd H1 dx (.own a)) a = none := by rw [upd_ne (Ne.symm hne)]; exact ha0
    have RB := RA.lay0 (o := .ins (ce X.K x) dx []) hx1
    have old : ∀ b o, H1 b = some o → (upd (upd H1 dx (.own a)) a (.ins (ce X.K x) dx [])) b = some o := fun b o e => by
      rw [upd_ne (ne_of_none e ha0), upd_ne (ne_of_none e hd0)]; exact e
    have RC : Rel c (gwo (upd (upd H1 dx (.own a)) a (.ins (ce X.K x) dx [])) F1 a) F1 (upd (upd H1 dx (.own a)) a (.ins (ce X.K x) dx [])) [] ⟨[], Γ1.ds⟩ :=
      ⟨RB.sub, Same.refl F1, fun b o e _ _ => e.1.elim (fun q => (wo_of q).2) (fun q => (wo_of q).2), fun b o _ _ e => e, rfl, fun i s e => by simp at e, fun i j a s t _ e => by simp at e, RB.dst, RB.tab, RB.nt⟩
    refine ⟨c, F1, ds, Γ1.ds, a, dx, vs, hK, rfl, hl, upd_same, hfr.2.2.2.1, hfr.1, hfr.2.1, RC, r1, ?_⟩
    cases hm : Fm ds Γ1.ds with
    | ok fs S =>
      rw [hm] at h1
      intro H' F' R' s' hF' ⟨dx', ks, vs', ds', hx', hl', rr, ef⟩
      subst ef
      obtain ⟨R2, s2⟩ := R1.backI ha0 RB old R' s' hF' hx' plo_ins.1
      exact ⟨rfl, h1 _ H' _ R2 (s'.trans s2) (.obj (by rw [hK]; exact upd_same) hl' (rr.mono s2))⟩
    | exc y S =>
      rw [hm] at h1
      intro H' F' R' s'
      -- the state as the caller sees it
      have keep : ∀ b o, H1 b = some o → (wo (upd (upd H1 dx (.own a)) a (.ins (ce X.K x) dx [])) a) b = some o := fun b o e => by rw [wo_ne (ne_of_none e ha0)]; exact old b o e
      obtain ⟨sc', d1, d2, d3, d4, d5, d6⟩ := id R'.dst
      refine h1 H' F' ⟨R'.sub, R1.subF.trans s', fun b o e k1 k2 => R'.fra b o ⟨.inl (keep b o (R1.fra b o e k1 k2)), e.2⟩ k1 k2, fun b o e hn h0 => ?_, rfl, fun i s e => by simp at e, fun i j a s t _ e => by simp at e, R'.dst, R'.tab, R'.nt⟩ s'
      by_cases k1 : b = c.sa
      · rw [k1]; exact d4
      · by_cases k2 : b = c.sg
        · rw [k2]; exact d5
        · exact R'.fz b o (keep b o (R1.fra b o ⟨.inl e, hn⟩ k1 k2)) hn (R1.fz b o e hn h0)
    | stuck => rw [hm] at h1; exact h1.elim
  · exact h1.elim
end
end DS
set_option maxRecDepth 100000
set_option maxHeartbeats 4000000
namespace DS
open PySem PySem.Spec L2
def ltA : D → D → Option D
  | .int i, .int j => some (.bl (decide (i < j)))
  | .tup xs, .tup ys => match D.pds xs, D.pds ys with
    | some ps, some qs => if PySem.W.alike (.tuple ps) (.tuple qs) && (SeqAt.shaped (.tuple ps) && SeqAt.shaped (.tuple qs)) then some (.bl (PySem.W.dataLt (.tuple ps) (.tuple qs))) else none
    | _, _ => none
  | _, _ => none
section
variable {X : Cx}
theorem od_ltA (hu : X.A.units + 64 < cLine) : OpR X (compareOp .Lt) (rD X.K ltA) := by
  intro pins s σ H x y v u Q I rx ry h
  obtain ⟨c, g, F, σ', Γ, d1, d2, d, hK, R, r1, r2, ho, q⟩ := h
  cases r1 with
  | int i =>
    cases r2 with
    | int j =>
      cases ho
      exact op_lt pins s σ H _ _ v u Q I rx ry ⟨i, j, rfl, rfl, rd_same R (.bl _) q⟩
    | _ => cases ho
  | @tup a xs ds ha ra =>
    cases r2 with
    | @tup b ys es hb rb =>
      have ho' : (match D.pds ds, D.pds es with
        | some ps, some qs => if PySem.W.alike (.tuple ps) (.tuple qs) && (SeqAt.shaped (.tuple ps) && SeqAt.shaped (.tuple qs)) then some (D.bl (PySem.W.dataLt (.tuple ps) (.tuple qs))) else none
        | _, _ => none) = some d := ho
      split at ho'
      · rename_i ps qs e1 e2
        split at ho'
        · rename_i hc
          cases ho'
          rw [Bool.and_eq_true, Bool.and_eq_true] at hc
          obtain ⟨hc1, hc2, hc3⟩ := hc
          have p1 : Dp X.K H (.ref a) (.tuple ps) := .tup (.inl (.inl (R.sub _ _ ha))) (dps_of R.sub ra e1)
          have p2 : Dp X.K H (.ref b) (.tuple qs) := .tup (.inl (.inl (R.sub _ _ hb))) (dps_of R.sub rb e2)
          obtain ⟨as, q1⟩ := Dp.reads I _ _ v p1 rx
          obtain ⟨bs, q2⟩ := Dp.reads I _ _ u p2 ry
          have hd := SeqAt.depth_of_shaped hc2
          have z := PySem.W.rcLt_alike (.tuple ps) (.tuple qs) X.A s v u as bs q1 q2 hc1 (fun z => by cases z) (by omega)
          exact z X.prog X.w X.xe _ (rd_same R (.bl _) q |> fun k => ⟨.bl _, H, I, rfl, k⟩)
        · cases ho'
      · cases ho'
    | _ => cases ho
  | _ => cases ho
end
theorem places_rev (n : Nat) : Builtin.Slice.slicePlaces ((n : Int) - 1) (-1) (-1) = n := by
  unfold Builtin.Slice.slicePlaces
  have h1 : ¬ ((-1 : Int) > 0) := by omega
  have h2 : (- (-1 : Int)) = 1 := by omega
  simp only [h1, if_false, h2, Int.ediv_one]
  split <;> omega
theorem fm_congr {α β : Type} {f g : α → Option β} : ∀ l : List α, (∀ x ∈ l, f x = g x) → l.filterMap f = l.filterMap g
  | [], _ => rfl
  | x :: l, h => by
    rw [List.filterMap_cons, List.filterMap_cons, h x List.mem_cons_self, fm_congr l fun y hy => h y (List.mem_cons_of_mem _ hy)]
theorem pick_rev (xs : Array Value) : ((List.range xs.size).filterMap fun (m : Nat) => xs[(((xs.size : Int) - 1) + (m : Int) * (-1)).toNat]?).toArray = xs.toList.reverse.toArray := by
  have e : ((List.range xs.size).filterMap fun (m : Nat) => xs[(((xs.size : Int) - 1) + (m : Int) * (-1)).toNat]?) = ((List.range xs.size).map fun k => xs.size - 1 - k).filterMap (xs[·]?) := by
    rw [List.filterMap_map]
    refine fm_congr _ fun m hm => ?_
    have hlt := List.mem_range.mp hm
    have : (((xs.size : Int) - 1) + (m : Int) * (-1)).toNat = xs.size - 1 - m := by omega
    show xs[_]? = xs[_]?
    rw [this]
  rw [e, PySem.W.krv_range, List.filterMap_reverse, PySem.W.krv_all]
section
variable {prog : Program} {w : World} {A : Around} {E : Value → Shared → Prop} {s : Shared}
open PyProof.Rows HT in
theorem getItem_tuple_rev {t sl : Addr} {items : Array Value} {vs : Value} {Q : Value → Shared → Prop} (ht : IsTup s.heap t items) (hs : s.heap.IsSliceOf sl .none .none vs) (ps : IsPart vs (some (-1)))
    (h : Q (.ref s.heap.objs.size) { s with heap := s.heap.push { cls := .type "tuple", data := .seq items.toList.reverse.toArray } })
    (hsz : items.size ≤ sizeLine) : wpAny (model prog w) A (getItem (.ref t) (.ref sl)) Q E s := by
  have htake : sizeOk (.seq items.toList.reverse.toArray) := by
    show items.toList.reverse.toArray.size ≤ sizeLine
    rw [List.size_toArray, List.length_reverse, Array.length_toList]
    exact hsz
  obtain ⟨os, hos, hcs, hds⟩ := id hs
  have hTs : s.TypeIs (.ref sl) "slice" := ⟨os, hos, hcs⟩
  unfold getItem
  try with_reducible refine wpAny_holding ?_
  first | refine wpAny_bind (wpAny_pure ?_) | skip
  refine wpAny_bind (wpAny_sequenceKey ht.typeIs (by decide) ?_)
  refine wpAny_bind (wpAny_callSpecial?_slot (name := Str.ofString "__getitem__") ht.typeIs PyProof.Rows.slot_tuple_getitem
    (wpAny_call_entry PyProof.Rows.slot_tuple_getitem ht.typeIs entry_tuple_getitem ?_ (args_tuple_getitem _ _)))
  show wpAny _ _ (Builtin.Tuple.tupleItemsOf (.ref t) >>= _) _ _ s
  refine wpAny_bind (tupleItemsOf_ ht ?_)
  refine wpAny_bind (wpAny_typeOf hTs ?_)
  rw [if_pos (by decide)]
  have ap : ∀ (A : Around) (Q' : Int × Int × Nat → Shared → Prop), Q' ((items.size : Int) - 1, -1, items.size) s → wpAny (model prog w) A (Builtin.Slice.sliceApplied (.ref sl) (pure (items.size : Int))) Q' E s := fun A Q' h => by
    unfold Builtin.Slice.sliceApplied Builtin.Slice.sliceFields
    refine wpAny_bind (wpAny_bind (wpAny_field hos hds (x := Value.none) rfl (wpAny_bind (wpAny_field hos hds (x := Value.none) rfl (wpAny_bind (wpAny_field hos hds (x := vs) rfl (wpAny_pure ?_)))))))
    refine wpAny_bind (slicePart_ ps ?_)
    show wpAny _ _ (if ((-1 : Int) == 0) = true then _ else _) _ _ s
    rw [if_neg (by decide)]
    refine wpAny_bind (slicePart_none (wpAny_bind (slicePart_none (wpAny_bind (wpAny_pure ?_)))))
    show wpAny _ _ (pure ((items.size : Int) - 1, (-1 : Int), Builtin.Slice.slicePlaces ((items.size : Int) - 1) (-1) (-1))) _ _ s
    rw [places_rev]
    exact wpAny_pure h
  refine wpAny_bind (ap _ _ ?_)
  have hno : ¬ ((((items.size : Int) - 1) == 0 && (-1 : Int) == 1 && items.size == items.size) = true) := by
    intro q
    rw [Bool.and_eq_true, Bool.and_eq_true] at q
    have : ((-1 : Int) == 1) = false := by decide
    rw [this] at q
    exact Bool.noConfusion q.1.2
  show wpAny _ _ (if (((items.size : Int) - 1) == 0 && (-1 : Int) == 1 && items.size == items.size) = true then _ else _) _ _ s
  rw [if_neg hno, pick_rev]
  first
    | exact wpAny_bind (m := Builtin.Tuple.tupleExact _) (wpAny_newObj_type (wpAny_pure ⟨_, rfl, wpAny_pure h⟩) htake)
    | exact wpAny_bind (m := Builtin.Tuple.tupleExact _) (wpAny_newObj_type (wpAny_bind (wpAny_pure (wpAny_pure ⟨_, rfl, wpAny_pure h⟩))) htake)
    | exact wpAny_bind (wpAny_bind (m := Builtin.Tuple.tupleExact _) (wpAny_newObj_type (wpAny_pure (wpAny_pure ⟨_, rfl, wpAny_pure h⟩)) htake))
    | exact wpAny_bind (wpAny_bind (m := Builtin.Tuple.tupleExact _) (wpAny_newObj_type (wpAny_pure ⟨_, rfl, wpAny_pure h⟩) htake))
end
def revD : D → Option D
  | .lst ds => some (.lst ds.reverse)
  | .tup ds => some (.tup ds.reverse)
  | _ => none
def revM (fa : M D) : M D := fun Γ => (fa Γ).bind fun d Γ1 => liftO (revD d) Γ1
section
variable {X : Cx} {E : XK} {a b e : Expr} {fa fb : M D} {pos : Pos}
theorem se_rev {k : Nat} {p1 p2 p3 : Pos} (he : PE X e (tOf X.K E fa)) : PE X (.Subscript e (.Slice none none (some (.UnaryOp .USub (.Constant (.int 1) k p1) p2)) p3) pos) (tOf X.K E (revM fa)) := by
  refine ⟨fun pins s σ H Q I h => ?_⟩
  obtain ⟨c, g, F, Γ, hK, R, h⟩ := h
  refine PyProof.Rows.Subscript_ (thn (he.run pins s σ H _ I ⟨c, g, F, Γ, hK, R, Post.split (rel2 := relD c) h⟩) fun v s1 ⟨x, H1, I1, r1, F1, Γ1, d, R1, s01, rr, h1⟩ => ?_)
  have hst : PO X (some (.UnaryOp .USub (.Constant (.int 1) k p1) p2)) (tPart (tUn (rU fun i => .int (-i)) (tC (.int 1)))) := po_some (pe_un un_neg pe_int)
  refine wpAny_Slice (thn (po_none.run pins s1 σ H1 (fun o H2 => o = none ∧ H2 = H1) I1 ⟨rfl, rfl⟩) fun vl s2 ⟨l, H2, I2, pl, el, e2⟩ => ?_)
  subst el e2
  refine thn (po_none.run pins s2 σ H2 (fun o H3 => o = none ∧ H3 = H2) I2 ⟨rfl, rfl⟩) fun vu s3 ⟨u, H3, I3, pu, eu, e3⟩ => ?_
  subst eu e3
  refine thn (hst.run pins s3 σ H3 (fun o H4 => o = some (-1) ∧ H4 = H3) I3 ⟨1, rfl, -1, rfl, rfl, rfl⟩) fun vs s4 ⟨o, H4, I4, ps, eo, e4⟩ => ?_
  subst eo e4
  have I5 : L2.Inv X pins σ H4 { s4 with heap := s4.heap.push { cls := .type "slice", data := .fields #[vl, vu, vs] } } := I4.kept (t' := s4.toks) fun b ob q => Heap.get?_push_of_some _ q
  unfold liftO at h1
  cases ho : revD d with
  | none => rw [ho] at h1; exact h1.elim
  | some d' =>
    rw [ho] at h1
    cases rr with
    | @lst p xs ds hp rr =>
      cases ho
      cases r1
      obtain ⟨its, r, ht, hz⟩ := I5.list (R1.sqL hp)
      have hlen := r.length
      show wpAny (model X.prog X.w) X.A (PyProof.Rows.subscriptTail e (.Slice none none (some (.UnaryOp .USub (.Constant (.int 1) k p1) p2)) p3) (.ref p) (.ref s4.heap.objs.size)) (EP X pins σ Q) X.xe { s4 with heap := s4.heap.push { cls := .type "slice", data := .fields #[vl, vu, vs] } }
      refine PyProof.Rows.tail_any (ops := [.ref p, .ref s4.heap.objs.size]) ht.isList.typeIs (PySem.slot_list_getitem.lookup) ?_ (by with_unfolding_all rfl)
      refine wpAny_getItem_list_slice ht.isList (Heap.IsSliceOf.new _ vl vu vs) pl pu ps (by decide) ?_ (by rw [List.size_toArray]; omega)
      rw [PySem.W.krv_pick]
      have hfr := I5.hok.fresh (Nat.le_refl _)
      obtain ⟨R2, s2, q2⟩ := R1.newLst rr.reverse hfr
      refine ⟨.ref _, _, I5.laid (t' := s4.toks) (o := .lst xs.reverse) (fun b ob q => Heap.get?_push_of_some _ q) (Nat.le_refl _) ?_, rfl, h1 _ _ _ R2 s2 q2⟩
      exact ⟨by rw [List.length_reverse]; exact hz, _, 0, r.reverse, Heap.get?_push_size _ rfl⟩
    | @tup p xs ds hp rr =>
      cases ho
      cases r1
      obtain ⟨its, r, ht, hz⟩ := I5.tuple (R1.sqT hp)
      have hlen := r.length
      cases pl
      cases pu
      show wpAny (model X.prog X.w) X.A (PyProof.Rows.subscriptTail e (.Slice none none (some (.UnaryOp .USub (.Constant (.int 1) k p1) p2)) p3) (.ref p) (.ref s4.heap.objs.size)) (EP X pins σ Q) X.xe { s4 with heap := s4.heap.push { cls := .type "slice", data := .fields #[.none, .none, vs] } }
      refine PyProof.Rows.tail_any (ops := [.ref p, .ref s4.heap.objs.size]) ht.typeIs (PyProof.Rows.slot_tuple_getitem.lookup) ?_ (by with_unfolding_all rfl)
      have hfr := I5.hok.fresh (Nat.le_refl _)
      obtain ⟨R2, s2, q2⟩ := R1.newTup rr.reverse hfr
      refine getItem_tuple_rev ht (Heap.IsSliceOf.new _ .none .none vs) ps ?_ (by rw [List.size_toArray]; omega)
      refine ⟨.ref _, _, I5.laid (t' := s4.toks) (o := .tup xs.reverse) (fun b ob q => Heap.get?_push_of_some _ q) (Nat.le_refl _) ?_, rfl, h1 _ _ _ R2 s2 q2⟩
      exact ⟨by rw [List.length_reverse]; exact hz, _, r.reverse, PyProof.Rows.IsTup.new _ _⟩
    | _ => cases ho
def envB (n : Nat) (ds es : List D) : List Slot := ds.map .val ++ .bor es :: List.replicate (n - (ds.length + 1)) .un
def runB (n : Nat) (body : SM) : List D → List D → DrawSt → RD := fun ds es S => match body ⟨envB n ds es, S⟩ with
  | .ok (.ret d) Γ => .ok d Γ.ds
  | .ok .nx Γ => .ok .non Γ.ds
  | .exc x S => .exc x S
  | _ => .stuck
def spB (K : PySem.W.Frag) (n : Nat) (Fm : FM) : Sp := fun vs H Q E => ∃ c F ds es S ws a xs, c.K = K ∧ vs = ws ++ [V.ref a] ∧ ds.length + 1 = n ∧ Rel c ⟨H, F, H, none⟩ F H [] ⟨[], S⟩ ∧ Reps c F ws ds ∧ H a = some (.lst xs) ∧ Reps c F xs es ∧ a ≠ c.sa ∧ a ≠ c.sg ∧ match Fm (ds ++ [.lst es]) S with
  | .ok d S' => ∀ v H' F', Rel c ⟨H, F, H, none⟩ F' H' [] ⟨[], S'⟩ → Same F F' → Rep c F' v d → Q v H'
  | .exc x S' => ∀ H' F', Rel c ⟨H, F, H, none⟩ F' H' [] ⟨[], S'⟩ → Same F F' → E (.ref (ce c.K x)) none H'
  | .stuck => False
def DFB (P : Program) (w : World) (K : PySem.W.Frag) (mg : Str → Option Value) (base : Heap) (x : String) (n k : Nat) (Fm : FM) : Prop :=
  ∃ (fd : FuncData) (ps : List Str), ps.length = n ∧ mg (PySem.Str.ofString x) = some (.ref (ce K x)) ∧ PySem.W.keepIn K (.ref (ce K x)) = true ∧ Binds K fd ps [] ∧ FnOk P w K mg base (L2.CX P w) k (ce K x) fd ps (spB K n Fm)
theorem Rel.startB {c : RC} {F H : Hp} {S : DrawSt} {vs : List V} {ds es : List D} {a : Addr} {xs : List V} (N : List Str) (R : Rel c ⟨H, F, H, none⟩ F H [] ⟨[], S⟩) (r : Reps c F vs ds) (ha : H a = some (.lst xs)) (rx : Reps c F xs es) (n1 : a ≠ c.sa) (n2 : a ≠ c.sg) :
    Rel c ⟨H, F, H, none⟩ F H (L2.start N (vs ++ [.ref a])) ⟨envB N.length ds es, S⟩ := by
  have hl : vs.length = ds.length := Reps.length r
  have es' : L2.start N (vs ++ [.ref a]) = vs.map some ++ some (.ref a) :: List.replicate (N.length - (vs.length + 1)) none := by simp [L2.start]
  have get : ∀ (i : Nat) (s : Slot), (envB N.length ds es)[i]? = some s → s.isOwn = false ∧ ∃ o, (L2.start N (vs ++ [.ref a]))[i]? = some o ∧ SlotR c ⟨H, F, H, none⟩ F H o s := fun i s e => by
    rw [es']
    unfold envB at e
    rw [List.getElem?_append] at e
    rw [List.getElem?_append]
    simp only [List.length_map] at e ⊢
    by_cases hi : i < ds.length
    · rw [if_pos hi, List.getElem?_map] at e
      rw [if_pos (by omega), List.getElem?_map]
      cases hd : ds[i]? with
      | none => rw [hd] at e; cases e
      | some d =>
        rw [hd] at e
        cases e
        obtain ⟨v, hv, rv⟩ := Reps.get r hd
        rw [hv]
        exact ⟨rfl, _, rfl, v, rfl, rv⟩
    · rw [if_neg hi] at e
      rw [if_neg (by omega)]
      cases hj : i - ds.length with
      | zero =>
        rw [hj] at e
        rw [hl, hj]
        cases e
        exact ⟨rfl, _, rfl, a, xs, rfl, ha, ha, rx, n1, n2⟩
      | succ j =>
        rw [hj, List.getElem?_cons_succ, List.getElem?_replicate] at e
        rw [hl, hj, List.getElem?_cons_succ, List.getElem?_replicate]
        split at e
        · cases e
          rename_i hlt
          rw [if_pos hlt]
          exact ⟨rfl, _, rfl, trivial⟩
        · cases e
  refine ⟨R.sub, R.subF, R.fra, R.fz, by rw [es']; simp [envB, hl], fun i s e => (get i s e).2, fun i j p s t _ e1 e2 h1 h2 _ _ => ?_, R.dst, R.tab, R.nt⟩
  rw [(get i s e1).1] at h1
  cases h1
end
section
variable {P : Program} {w : World} {K : PySem.W.Frag} {mg : Str → Option Value} {base : Heap}
theorem dfb_ok {x : String} {qual : Str} {params : Arguments} {body : List Stmt} {scope : Scope} {fd : FuncData} {N ps : List Str} {n k : Nat} {Fm : FM} (F : FunD K (PySem.Str.ofString x) qual params body scope [] [] (ce K x) fd) (S : FnScope N ps scope) (hn : ps.length = n)
    (gm : mg (PySem.Str.ofString x) = some (.ref (ce K x)))
    (hb : ∀ (kV doc pm : Value) (an : Option Addr) (cdv ct : Value) (us : List Value), us.length = ps.length → bindArgs (PySem.W.fnOf (PySem.Str.ofString x) qual params body scope .none kV doc pm an cdv ct) ⟨us, []⟩ = pure (ps.zip us)) (f : SM)
    (hbody : ∀ (cdv : Value) (A : Around) (outer : List Env) (s : Shared) (H : Hp) (E : XK), Room k (A.deeper (PyProof.Rows.envOfC qual scope s.heap.objs.size (ce K x) cdv)) →
      PSs (cxOf (L2.CX P w) P w K mg base N qual scope (ce K x) cdv A outer s H E) body (sOf K E f))
    (hf : ∀ ds es S, ds.length + 1 = n → Fm (ds ++ [.lst es]) S ≠ .stuck → runB N.length f ds es S = Fm (ds ++ [.lst es]) S) : DFB P w K mg base x n (k + 1) Fm := by
  refine ⟨fd, ps, hn, gm, F.kp, F.bindsN hb, F.ok S (fun vs H Q E h => ?_) fun cdv A outer s H vs Q E hr h => ⟨_, hbody cdv A outer s H E hr, ?_⟩⟩
  · obtain ⟨c, F, ds, es, S, ws, a, xs, _, rfl, hl, _, r, _⟩ := h
    rw [List.length_append, Reps.length r, List.length_singleton, hl, hn]
  · obtain ⟨c, F, ds, es, S, ws, a, xs, hK, rfl, hl, R, r, ha, rx, n1, n2, h⟩ := h
    refine ⟨c, ⟨H, F, H, none⟩, F, _, hK, Rel.startB N R r ha rx n1 n2, ?_⟩
    cases hm : Fm (ds ++ [.lst es]) S with
    | stuck => rw [hm] at h; exact h.elim
    | ok d S' =>
      rw [hm] at h
      have e := hf ds es S hl (by rw [hm]; exact fun z => by cases z)
      rw [hm] at e
      unfold runB at e
      cases hr : f ⟨envB N.length ds es, S⟩ with
      | ok a Γ =>
        rw [hr] at e
        cases a with
        | nx =>
          cases e
          exact fun σ H' F' R' s' => h .non H' F' R'.drop s' .non
        | ret d' =>
          cases e
          exact fun σ v H' F' R' s' r' => h v H' F' R'.drop s' r'
        | bk => cases e
        | ct => cases e
      | exc n S => rw [hr] at e; cases e
      | stuck => rw [hr] at e; cases e
    | exc y S' =>
      rw [hm] at h
      have e := hf ds es S hl (by rw [hm]; exact fun z => by cases z)
      rw [hm] at e
      unfold runB at e
      cases hr : f ⟨envB N.length ds es, S⟩ with
      | ok a Γ =>
        rw [hr] at e
        cases a <;> cases e
      | exc n S => rw [hr] at e; cases e; exact fun H' F' R' s' => h H' F' R' s'
      | stuck => rw [hr] at e; cases e
end
/-- a row whose last is a list's name -/
def relAB (c : RC) (F H : Hp) (Γ : G) (vs : List V) (r : List D × List D) : Prop := ∃ ws a xs, vs = ws ++ [V.ref a] ∧ Reps c F ws r.1 ∧ H a = some (.lst xs) ∧ Reps c F xs r.2 ∧ a ≠ c.sa ∧ a ≠ c.sg
def abOf (K : PySem.W.Frag) (E : XK) (f : M (List D × List D)) : TA := fun σ H Q => ∃ c g F Γ, c.K = K ∧ Rel c g F H σ Γ ∧ Post c g σ E (relAB c) Q F (f Γ)
def lastB (i : Nat) : M (List D × List D) := fun Γ => match peekL i Γ with
  | some es => .ok ([], es) Γ
  | none => .stuck
def consB (f : M D) (r : M (List D × List D)) : M (List D × List D) := fun Γ => (f Γ).bind fun d Γ1 => (r Γ1).bind fun ds Γ2 => .ok (d :: ds.1, ds.2) Γ2
def callB (n : Nat) (Fm : FM) (fa : M (List D × List D)) : M D := fun Γ => (fa Γ).bind fun r Γ1 => if r.1.length + 1 = n then match Fm (r.1 ++ [.lst r.2]) Γ1.ds with
  | .ok d S => .ok d { Γ1 with ds := S }
  | .exc x S => .exc x S
  | .stuck => .stuck
  else .stuck
section
variable {X : Cx} {E : XK} {a b e : Expr} {fa fb : M D} {pos : Pos}
theorem Rel.peekN {c : RC} {g : Gh} {F H : Hp} {σ : St} {Γ : G} (R : Rel c g F H σ Γ) {i : Nat} {ds : List D} (h : peekL i Γ = some ds) : ∃ p vs, σ[i]? = some (some (.ref p)) ∧ H p = some (.lst vs) ∧ Reps c F vs ds ∧ p ≠ c.sa ∧ p ≠ c.sg := by
  unfold peekL at h
  split at h
  · cases h
    rename_i hi
    obtain ⟨o, eo, p, vs, e1, h1, r, _, _, n1, n2⟩ := R.slot i _ hi
    exact ⟨p, vs, by rw [eo, e1], h1, r, n1, n2⟩
  · cases h
    rename_i hi
    obtain ⟨o, eo, v, e1, r⟩ := R.slot i _ hi
    cases r with
    | @lst p xs _ hp rr =>
      obtain ⟨_, _, _, _, d4, d5, _⟩ := R.dst
      exact ⟨p, xs, by rw [eo, e1], R.sub _ _ hp, rr, ne_of_none hp d4, ne_of_none hp d5⟩
  · cases h
    rename_i hi
    obtain ⟨o, eo, p, vs, e1, _, h1, r, n1, n2⟩ := R.slot i _ hi
    exact ⟨p, vs, by rw [eo, e1], h1, r, n1, n2⟩
  · cases h
theorem sab_last (i : Nat) {x : Str} {px : Pos} (h1 : starEach [.Name x px] X.env = (false, eval (.Name x px) X.env) :: starEach [] X.env := by rfl) (hN : X.N[i]? = some x := by rfl) (hv : Vis X.env.scope x := by first | exact Or.inl rfl | exact Or.inr (Or.inl rfl) | exact Or.inr (Or.inr rfl)) (hd : (x == ("__debug__" : Str)) = false := by decide)
    (hcd : (x == ("__classdict__" : Str)) = false := by decide) : PA X [.Name x px] (abOf X.K E (lastB i)) :=
  PA_imp (pa_cons (pe_var hN hv hd hcd) pa_nil h1) fun σ H Q ⟨c, g, F, Γ, hK, R, h⟩ => by
    unfold lastB at h
    split at h
    · rename_i es hp
      obtain ⟨p, vs, e1, h1, r, n1, n2⟩ := R.peekN hp
      exact ⟨_, e1, h _ H F R (Same.refl _) ⟨[], p, vs, rfl, .nil, h1, r, n1, n2⟩⟩
    · exact h.elim
theorem sab_cons {es : List Expr} {fr : M (List D × List D)} (ha : PE X e (tOf X.K E fa)) (hr : PA X es (abOf X.K E fr)) (hs : starEach (e :: es) X.env = (false, eval e X.env) :: starEach es X.env := by rfl) : PA X (e :: es) (abOf X.K E (consB fa fr)) :=
  PA_imp (pa_cons ha hr hs) fun σ H Q ⟨c, g, F, Γ, hK, R, h⟩ => ⟨c, g, F, Γ, hK, R, (Post.split (rel2 := relD c) h).imp fun x H1 ⟨F1, Γ1, d1, R1, s1, r1, h1⟩ =>
    ⟨c, g, F1, Γ1, hK, R1, (Post.split (rel2 := relAB c) h1).imp fun xs H2 ⟨F2, Γ2, ds, R2, s2, ⟨ws, p, ys, ev, rw', hp, ry, n1, n2⟩, h2⟩ =>
      h2 _ H2 F2 R2 (Same.refl _) ⟨x :: ws, p, ys, by rw [ev]; rfl, .cons (Rep.mono s2 r1) rw', hp, ry, n1, n2⟩⟩⟩
theorem se_callBor {x : String} {e : Expr} {es : List Expr} {n j k : Nat} {Fm : FM} {fa : M (List D × List D)} {p : Pos} (G : DFB X.prog X.w X.K X.mg X.base x n k Fm) (hr : Room j X.A) (hk : k ≤ j) (hx : Passes (L2.CX X.prog X.w) X E) (hg : Gl X (PySem.Str.ofString x)) (ha : PA X (e :: es) (abOf X.K E fa))
    (hdb : (PySem.Str.ofString x == ("__debug__" : Str)) = false := by decide) (he : starEach (e :: es) X.env = (false, eval e X.env) :: starEach es X.env := by rfl) (hpl : (backTo pos (starEach es X.env)).any (·.1) = false := by rfl) :
    PE X (.Call (.Name (PySem.Str.ofString x) p) (e :: es) [] pos) (tOf X.K E (callB n Fm fa)) := by
  obtain ⟨fd, ps, hn, gm, kp, hb, ok⟩ := G
  refine PE_imp (pe_call (dvs := []) ok (hr.mono hk) hg gm kp hb .nil hx ha hdb he hpl) fun σ H Q ⟨c, g, F, Γ, hK, R, h⟩ => ⟨c, g, F, Γ, hK, R, (Post.split (rel2 := relAB c) h).imp fun vs H1 ⟨F1, Γ1, r, R1, s1, ⟨ws, a, xs, ev, rw', hp, rx, n1, n2⟩, h1⟩ => ?_⟩
  rw [List.append_nil]
  split at h1
  · rename_i hl
    refine ⟨c, F1, r.1, r.2, Γ1.ds, ws, a, xs, hK, ev, hl, R1.call, rw', hp, rx, n1, n2, ?_⟩
    cases hm : Fm (r.1 ++ [.lst r.2]) Γ1.ds with
    | ok d S =>
      rw [hm] at h1
      exact fun v H' F' R' s' r' => h1 v H' F' (R1.back R' s') s' r'
    | exc x S =>
      rw [hm] at h1
      exact fun H' F' R' s' => h1 H' F' (R1.backX R' s') s'
    | stuck => rw [hm] at h1; exact h1.elim
  · exact h1.elim
end
end DS
set_option maxRecDepth 100000
set_option maxHeartbeats 4000000
namespace DS
open PySem PySem.Spec L2
section
variable {X : Cx} {pins : List (Addr × Obj)} {σ : St} {H : Hp} {s : Shared}
theorem Inv.track (I : L2.Inv X pins σ H s) {a : Addr} {o : HO} (hn : H a = none) (h0 : X.s_0.heap.get? a = none) (np : ∀ p ∈ X.pn ++ pins, p.1 ≠ a) (nL : a ≠ X.env.locals) (nC : ∀ v, ¬ s.heap.IsCell a v) (new : ObjOk X.prog X.w (upd H a o) s.heap a o) : L2.Inv X pins σ (upd H a o) s := by
  refine ⟨I.ok, I.os, I.bare, ⟨I.base.keep, I.base.slot, fun b u q n hx => ?_, I.base.there, fun b xs q => ?_, fun b u xs q => ?_, fun b ps q => ?_⟩, I.loc, I.cell, ?_, fun x c e => ?_, fun p hp => ?_, I.hok.laidN (fun _ _ q => q) hn new, I.len⟩
  · have hb : b ≠ a := fun z => by rw [z, h0] at q; cases q
    rw [upd_ne hb]; exact I.base.free b u q n hx
  · have q' := I.base.tups b xs q
    rw [upd_ne (ne_of_none q' hn)]; exact q'
  · have q' := I.base.frzs b u xs q
    rw [upd_ne (ne_of_none q' hn)]; exact q'
  · obtain ⟨m, q'⟩ := I.base.tbls b ps q
    exact ⟨m, by rw [upd_ne (ne_of_none q' hn)]; exact q'⟩
  · rw [upd_ne (Ne.symm nL)]; exact I.free
  · obtain ⟨v, hv⟩ := I.cell x c e
    have hc : c ≠ a := fun z => nC v (z ▸ hv)
    rw [upd_ne hc]; exact I.freeC x c e
  · obtain ⟨e1, e2, e3⟩ := I.pin p hp
    exact ⟨e1, by rw [upd_ne (np p hp)]; exact e2, e3⟩
end
theorem exV_ok {P : Program} {w : World} {H : Hp} {h : Heap} {a : Addr} {cls : Value} {oe : Obj} {vs : Array Value} (e : h.get? a = some oe) (z : Zc cls none oe) (d : oe.data = .fields vs) : ObjOk P w H h a (ExV cls a) :=
  ⟨⟨oe, vs, e, z, d⟩, ⟨oe, e⟩, fun _ _ ⟨o, v, q, r⟩ k => ⟨o, v, k o q, r⟩⟩
def wAsT (K : PySem.W.Frag) (m : Nat) (c : Value) (i : Nat) (ts : Addr → Value → Option Addr → TS) (Wout : WX) (D : Ends) : WX := fun cls d σ H =>
  ∃ b, PySem.W.exmOne K cls c = some b ∧ (b = true → d = none ∧ ∀ a, H a = none → σ.length = m → ts a cls d { nx := fun σ' H' => D.nx (σ'.set i none) (upd H' a (ExV cls a)), rt := fun _ _ => False, bk := fun _ _ => False, ct := fun _ _ => False } (σ.set i (some (.ref a))) H) ∧
    (b = false → Wout cls d σ H)
section
variable {X : Cx} {x n : Str} {c : Value} {i : Nat} {body suite : List Stmt} {b₀ : Stmt} {np pos pos' : Pos} {tb : WX → TS} {ts : Addr → Value → Option Addr → TS} {Wout : WX}
open PyProof.Rows in
theorem ps_try_ex (hex : X.ex = []) (hs : X.stack = X.env :: X.outer) (hf : X.env.frame = some X.env.locals) (hN : X.N.Nodup) (hi : X.N[i]? = some n) (hln : X.env.kindOf n = some .local) (hc : Names X x c) (tk : Takes X Wout)
    (hb : ∀ (W : WX) (pn : List (Addr × Obj)) (xe : Value → Shared → Prop), Takes (X.tr pn xe) W → PassesOwn (model X.prog X.w) X.A X.env xe → PSs (X.tr pn xe) body (tb W))
    (hsu : ∀ (a : Addr) (oe : Obj) (cls : Value) (d : Option Addr) (pn : List (Addr × Obj)), Zc cls d oe → (∃ vs, oe.data = .fields vs) → PSs (X.suite a ((a, oe) :: pn)) (b₀ :: suite) (ts a cls d)) :
    PS X (.Try body [.ExceptHandler (some (.Name x np)) (some n) (b₀ :: suite) pos'] [] [] pos) (fun D σ H => tb (wAsT X.K X.N.length c i ts Wout D) D σ H) := by
  refine ⟨fun pins s σ H D I h => ?_⟩
  have ok := I.ok
  have hfr : X.A.frames = some (X.env :: X.outer) := by rw [ok.frames, hs]
  have hloc : Loc X.env.scope n := .inl hln
  refine wpAny_Try_except ?_
  refine wpAny_mono ((hb (wAsT X.K X.N.length c i ts Wout D) (X.pn ++ pins) (fun e s₁ => wpAny (model X.prog X.w) X.A (noteFrame e X.env) (fun _ s₂ => wpAny (model X.prog X.w) X.A (setFlight e none) (fun _ s₃ =>
    wpAny (model X.prog X.w) X.A (handleBy e X.env [.ExceptHandler (some (.Name x np)) (some n) (b₀ :: suite) pos']) (SP X pins D) X.xe s₃) X.xe s₂) X.xe s₁) (fun u s' xx => ?_) PassesOwn.looking).run [] s σ H D (I.toTry _) h) (fun f s1 hsp => ?_) (fun e s1 he => he)
  · obtain ⟨a, B, sI, pins', σ', H', cls, d, rfl, J', nb, up, sky, na, os, ag, b, hb1, hyes, hno⟩ := xx
    have J : L2.Inv X pins σ' H' sI := J'.ofTry ok
    have sky' : Sky B (X.env :: X.outer) a (Zc cls d) X.env.locals s'.heap := by rw [← hs]; exact sky
    show wpAny (model X.prog X.w) X.A (noteFrame (.ref a) X.env) _ _ _
    refine Sky.land Zc.steady hfr hf sky' fun h3 fl3 up3 => ?_
    have J3 : L2.Inv X pins σ' H' { s' with heap := h3 } := J.landed nb fl3.1 (up.trans up3) os ag
    obtain ⟨oe3, vs3, he3, hz3, hd3⟩ := fl3.there
    have notFr : ∀ {h : Heap} {o : Obj} {vs : Array Value}, h.FunFrames B (X.env :: X.outer) → h.get? a = some o → o.data = .fields vs → a ∉ frs (X.env :: X.outer) := fun {h o vs} ff e dd hm => by
      obtain ⟨_, o', e', hnf⟩ := ff.mem hm
      rw [e] at e'; cases e'
      exact hnf _ dd
    have nfr := notFr fl3.2.2.1 he3 hd3
    have nL : a ≠ X.env.locals := fun z => nfr (List.mem_filterMap.mpr ⟨X.env, List.mem_cons_self, by rw [hf, z]⟩)
    have nF : a ∉ X.fs := fun hm => by
      obtain ⟨e, he, q⟩ := List.mem_filterMap.mp hm
      exact nfr (List.mem_filterMap.mpr ⟨e, List.mem_cons_of_mem _ he, q⟩)
    -- the exception was not there when the body was entered
    have nI : sI.heap.get? a = none := by
      cases e : sI.heap.get? a with
      | none => rfl
      | some o =>
        have q := nb a o e (by rw [hs]; exact nfr)
        rw [fl3.2.1] at q
        cases q
    have n0 : X.s_0.heap.get? a = none := by
      cases e : X.s_0.heap.get? a with
      | none => rfl
      | some o =>
        obtain ⟨o', q⟩ := J.base.there a o e (by rw [hex]; simp)
        rw [nI] at q
        cases q
    have npin : ∀ p ∈ X.pn ++ pins, p.1 ≠ a := fun p hp z => by
      have q := (J.pin p hp).1
      rw [z, nI] at q
      cases q
    have S3 := J3.suite he3 hd3 na nL nF
    refine wpAny_handleBy_cons (codeAny_handlers_test ?_) (by intro q; cases q)
    have LT : PySem.W.Looks (model X.prog X.w) h3 (typeOf (.ref a)) cls := fun A Q E s k q => wpAny_typeOf_ref (k _ _ he3) (by rw [hz3.1]; exact q)
    have LM := PySem.W.exm_one (M := model X.prog X.w) (J3.kIn) LT hb1
    have test : ∀ {Q : Value → Shared → Prop} {E : Value → Shared → Prop}, Q c { s' with heap := h3 } → wpAny (model X.prog X.w) (X.A.mark (some (.ref a))) (eval (.Name x np) X.env) Q E { s' with heap := h3 } := fun {Q E} q => by
      obtain ⟨hg, hdbg, hm | ⟨hm, hv, hnn⟩⟩ := hc
      · exact ld_glob (X := X.suite a ((a, oe3) :: (X.pn ++ pins))) S3 hg hm q hdbg
      · exact ld_blt (X := X.suite a ((a, oe3) :: (X.pn ++ pins))) S3 hg hm hv q hnn hdbg
    refine test (LM.here ?_)
    cases b with
    | true =>
      obtain ⟨rfl, hyes⟩ := hyes rfl
      refine codeAny_handlers_suite_as ?_
      refine HandSPX.lands_againZ fl3 fun h4 fl4 up4 => ?_
      have J4 : L2.Inv X pins σ' H' { s' with heap := h4 } := J.landed nb fl4.1 ((up.trans up3).trans up4) os ag
      obtain ⟨oe4, vs4, he4, hz4, hd4⟩ := fl4.there
      have S4 := J4.suite he4 hd4 na nL nF
      refine store_ok (X := X.suite a ((a, oe4) :: (X.pn ++ pins))) (v := .ref a) S4 hN hi hloc rfl (fun s5 S5 => ?_) (.inr hln)
      refine wpAny_mono ((hsu a oe4 cls none (X.pn ++ pins) hz4 ⟨_, hd4⟩).run [] s5 _ H' _ S5 (hyes a na J.len)) (fun f s6 hsp => ?_) (fun _ _ z => False.elim z)
      cases f with
      | next =>
        obtain ⟨σ6, H6, S6, q6⟩ := hsp
        refine gone_ok (X := X.suite a ((a, oe4) :: (X.pn ++ pins))) S6 hN hi hln fun s7 S7 => ?_
        obtain ⟨g7, na7, _, _, nc7⟩ := S7.pin (a, oe4) (List.mem_append_left _ List.mem_cons_self)
        have J7 := S7.unsuite ok
        exact ⟨_, _, Inv.track J7 na7 n0 npin nL (fun v ⟨o, ho, hd⟩ => by
          rw [g7] at ho
          cases ho
          exact nc7 v hd) (exV_ok g7 hz4 hd4), q6⟩
      | brk => obtain ⟨_, _, _, q6⟩ := hsp; exact q6.elim
      | cont => obtain ⟨_, _, _, q6⟩ := hsp; exact q6.elim
      | ret u => obtain ⟨_, _, _, _, _, q6⟩ := hsp; exact q6.elim
    | false =>
      show wpAny _ X.A (handleBy (.ref a) X.env []) _ _ _
      refine wpAny_handleBy_nil ?_
      obtain ⟨k1, k2, k3, oe, vs, T, oT, ts', he, hz, hd, h1, hr⟩ := id fl3
      unfold PySem.passOn
      refine wpAny_bind (wpAny_field he hd h1 ?_)
      rw [if_neg (show ¬ ((Value.ref T == Value.none) = true) from by simp)]
      have fin : wpAny (model X.prog X.w) X.A (setFlight (.ref a) X.env.frame) (fun _ s4 => wpAny (model X.prog X.w) X.A (throw (.ref a) : Sem Flow) (SP X pins D) X.xe s4) X.xe { s' with heap := h3 } := by
        rw [hf]
        refine HandSPX.setFlight_upZ fl3 fun h4 hh4 up4 => wpAny_throw (tk _ _ ?_)
        exact ⟨a, B, sI, pins, σ', H', cls, d, rfl, J, nb, (up.trans up3).trans up4, .inr (.inr (by rw [hs]; exact hh4)), na, os, ag, hno rfl⟩
      first
        | exact wpAny_bind (wpAny_pure (wpAny_bind fin))
        | exact wpAny_bind fin
  · cases f with
    | next =>
      obtain ⟨σ', H', J', q⟩ := hsp
      exact wpAny_execs_nil ⟨σ', H', J'.ofTry ok, q⟩
    | brk =>
      obtain ⟨σ', H', J', q⟩ := hsp
      exact ⟨σ', H', J'.ofTry ok, q⟩
    | cont =>
      obtain ⟨σ', H', J', q⟩ := hsp
      exact ⟨σ', H', J'.ofTry ok, q⟩
    | ret u =>
      obtain ⟨v, σ', H', J', r, q⟩ := hsp
      exact ⟨v, σ', H', J'.ofTry ok, r, q⟩
end
/-- caught = None / try: work() / except PullError as error: caught = error / return caught -/
def TTcaught (K : PySem.W.Frag) (CS : Addr) : (XK → Hp → VK → Prop) → Hp → VK → Prop := fun tl H Q =>
  tl (fun cls d H' => PySem.W.exmOne K cls (.ref CS) = some true ∧ d = none ∧ ∀ a, H' a = none → Q (.ref a) (upd H' a (ExV cls a))) H fun _ H' => Q .non H'
theorem caught_gives {X : Cx} {x e q a1 c1 e1 : Str} {sg : Scope} {g CS : Addr} {cdg : Value} {j1 : Nat} {p1 p2 p3 p4 p5 p6 p7 p8 p9 p10 p11 p12 p13 p14 : Pos} (hge : sg.names.lookup e = some .globalImplicit) (hme : X.mg e = some (.ref CS)) (hde : (e == ("__debug__" : Str)) = false)
    (hN : ([a1, c1, e1] : List Str).Nodup) (l1 : sg.names.lookup c1 = some .local) (l2 : sg.names.lookup e1 = some .local) (kd : ∀ L, (PyProof.Rows.envOfC x sg L g cdg).kindOf e1 = some .local) (d1 : (e1 == ("__debug__" : Str)) = false) (d2 : (e1 == ("__classdict__" : Str)) = false)
    (d3 : (c1 == ("__debug__" : Str)) = false) (d4 : (c1 == ("__classdict__" : Str)) = false) :
    LamX.GivesTo X [a1, c1, e1] x sg g cdg [.Assign [.Name c1 p1] (.Constant .none j1 p2) p3, .Try [.Expr (.Call (.Name a1 p4) [] [] p5) p6] [.ExceptHandler (some (.Name e p7)) (some e1) [.Assign [.Name c1 p8] (.Name e1 p9) p10] p11] [] [] p12, .Return (some (.Name c1 p13)) p14] a1 q (TTcaught X.K CS) := by
  intro f c' s H Q tl act hc h
  have hgl : Gl (cxOf C8.CX0 X.prog X.w X.K X.mg X.base [a1, c1, e1] x sg g cdg X.A X.stack s H C8.E0).nox e := hge
  refine ⟨_, pss_cons (ps_set (i := 1) (X := (cxOf C8.CX0 X.prog X.w X.K X.mg X.base [a1, c1, e1] x sg g cdg X.A X.stack s H C8.E0).nox) hN rfl (.inl l1) pe_non) (pss_cons (ps_try_ex (X := (cxOf C8.CX0 X.prog X.w X.K X.mg X.base [a1, c1, e1] x sg g cdg X.A X.stack s H C8.E0).nox) (c := .ref CS) (i := 2)
      (tb := fun W D σ H => ∃ Ech : XK, (∀ cls d σ' H', Ech cls d H' → W cls d σ' H') ∧ σ[0]? = some (some (.ref f)) ∧ H c' = some (LamX.CodeO c' q) ∧ tl Ech H fun _ H' => D.nx σ H') (Wout := fun _ _ _ _ => False)
      rfl rfl rfl hN rfl (kd _) ⟨hgl, hde, .inl hme⟩ LamX.takes0 (fun W pn xe tk _ => ?_) (fun a oe cls d pn _ _ => pss_one (ps_set (i := 1) hN rfl (.inl l1) (pe_var (i := 2) rfl (.inl l2) d1 d2) (hf := .inr l1)))) (pss_one (ps_ret (pe_var (i := 1) rfl (.inl l1) d3 d4)))), ?_⟩
  · refine pss_one ⟨fun pins s' σ H' D I h' => ?_⟩
    obtain ⟨Ech, hW, h1, h2, h3⟩ := h'
    have hp := act W pn xe Ech p4 p5 tk hW
    exact (ps_expr (pos := p6) hp).run pins s' σ H' D I ⟨h1, h2, h3⟩
  · refine ⟨fun cls d H' => PySem.W.exmOne X.K cls (.ref CS) = some true ∧ d = none ∧ ∀ a, H' a = none → Q (.ref a) (upd H' a (ExV cls a)), fun cls d σ' H' ⟨b1, b2, b3⟩ => ⟨true, b1, fun _ => ⟨b2, fun a ha hl => ?_⟩, fun z => Bool.noConfusion z⟩, rfl, hc, ?_⟩
    · have hl3 : σ'.length = 3 := hl
      obtain ⟨x0, x1, x2, rfl⟩ : ∃ x0 x1 x2, σ' = [x0, x1, x2] := by
        match σ', hl3 with
        | [x0, x1, x2], _ => exact ⟨x0, x1, x2, rfl⟩
      exact ⟨_, rfl, _, rfl, b3 a ha⟩
    · refine cast (congrArg (tl _ H) ?_) h
      funext _ H'
      exact propext ⟨fun z => ⟨_, rfl, z⟩, fun ⟨v, e, z⟩ => by cases e; exact z⟩
def frz1 (i : Nat) (Γ : G) : G := match Γ.env[i]? with
  | some (.own ds) => { Γ with env := Γ.env.set i (.val (.lst ds)) }
  | some (.ownd kvs) => { Γ with env := Γ.env.set i (.val (.dic kvs)) }
  | some (.owno n fs) => { Γ with env := Γ.env.set i (.val (.obj n fs)) }
  | _ => Γ
def frzAt : List Nat → G → G
  | [], Γ => Γ
  | i :: is, Γ => frzAt is (frz1 i Γ)
def maskS : Slot → Slot
  | .val d => .val d
  | _ => .un
def maskG (Γ : G) : G := { Γ with env := Γ.env.map maskS }
section
variable {c : RC} {g : Gh} {F H : Hp} {σ : St} {Γ : G}
theorem frz1_ds (i : Nat) (Γ : G) : (frz1 i Γ).ds = Γ.ds := by unfold frz1; split <;> rfl
theorem frzAt_ds : ∀ (is : List Nat) (Γ : G), (frzAt is Γ).ds = Γ.ds
  | [], _ => rfl
  | i :: is, Γ => (frzAt_ds is _).trans (frz1_ds i Γ)
theorem Rel.frzI (R : Rel c g F H σ Γ) (i : Nat) : ∃ F', Same F F' ∧ Rel c g F' H σ (DS.frz1 i Γ) := by
  unfold DS.frz1
  split
  · rename_i ds hi
    obtain ⟨o, eo, p, vs, e1, h1, r, _⟩ := R.slot i _ hi
    subst e1
    obtain ⟨F', s, r', R'⟩ := R.freezeG (d := .lst ds) hi rfl eo h1 fun F' s e => .lst e (r.mono s)
    exact ⟨F', s, R'⟩
  · rename_i kvs hi
    obtain ⟨o, eo, p, ks, vs, ds, e1, h1, l, r, ek, _⟩ := R.slot i _ hi
    subst e1
    subst ek
    obtain ⟨F', s, r', R'⟩ := R.freezeG (d := .dic (List.zip ks ds)) hi rfl eo h1 fun F' s e => .dic e l (r.mono s)
    exact ⟨F', s, R'⟩
  · rename_i n fs hi
    obtain ⟨o, eo, p, dx, ks, vs, ds, e1, hm, h1, l, r, ek, _⟩ := R.slot i _ hi
    subst e1
    subst ek
    obtain ⟨F', s, r', R'⟩ := R.freezeG (d := .obj n (List.zip ks ds)) hi rfl eo h1 fun F' s e => .obj e l (r.mono s)
    exact ⟨F', s, R'⟩
  · exact ⟨F, Same.refl F, R⟩
theorem Rel.frzS : ∀ (is : List Nat) {F : Hp} {Γ : G}, Rel c g F H σ Γ → ∃ F', Same F F' ∧ Rel c g F' H σ (frzAt is Γ)
  | [], F, _, R => ⟨F, Same.refl F, R⟩
  | i :: is, _, _, R => by
    obtain ⟨F1, s1, R1⟩ := R.frzI i
    obtain ⟨F2, s2, R2⟩ := Rel.frzS is R1
    exact ⟨F2, s1.trans s2, R2⟩
theorem Rel.mask (R : Rel c g F H σ Γ) : Rel c ⟨H, F, H, none⟩ F H σ (maskG Γ) := by
  have at_ : ∀ (i : Nat) (s : Slot), (Γ.env.map maskS)[i]? = some s → ∃ t, Γ.env[i]? = some t ∧ maskS t = s := fun i s e => by
    rw [List.getElem?_map] at e
    cases h : Γ.env[i]? with
    | none => rw [h] at e; cases e
    | some t => rw [h] at e; cases e; exact ⟨t, rfl, rfl⟩
  have no : ∀ s : Slot, (maskS s).isOwn = false := fun s => by cases s <;> rfl
  refine ⟨R.sub, Same.refl F, fun b o e _ _ => e.1.elim id id, fun b o _ _ e => e, by show σ.length = (Γ.env.map maskS).length; rw [List.length_map]; exact R.len, fun i s e => ?_, fun i j a s t _ e1 e2 h1 _ _ _ => ?_, R.dst, R.tab, R.nt⟩
  · obtain ⟨t, e1, e2⟩ := at_ i s e
    subst e2
    obtain ⟨o, eo, q⟩ := R.slot i t e1
    refine ⟨o, eo, ?_⟩
    cases t with
    | val d => exact q
    | _ => trivial
  · obtain ⟨s', _, e2⟩ := at_ i s e1
    rw [← e2, no] at h1
    cases h1
/-- what the making of a lambda leaves -/
theorem Rel.extN {H1 : Hp} (R : Rel c g F H σ Γ) (e : LamX.ExtN H H1) (t : LamX.Tabs Γ.ds.T H1) : Rel c g F H1 σ Γ := by
  have hf : ∀ b u, g.has b u → b ≠ c.sa → b ≠ c.sg → H1 b = some u := fun b u q h1 h2 => e b u (R.fra b u q h1 h2) q.2
  obtain ⟨sc, d1, d2, d3, d4, d5, d6⟩ := id R.dst
  refine ⟨fun b u q => e b u (R.sub b u q) (R.nt b u q), R.subF, hf, R.fz, R.len, fun i s q => ?_, R.dis, ⟨sc, e _ _ d1 plo_dK.1, e _ _ d2 plo_lst.1, d3, d4, d5, d6⟩, t, R.nt⟩
  obtain ⟨o, eo, r⟩ := R.slot i s q
  refine ⟨o, eo, r.mono hf (Same.refl F) fun a hs ea => ?_⟩
  obtain ⟨⟨u, hu, hpl⟩, q2, _⟩ := R.owned ⟨i, s, q, hs, by rw [eo, ea]⟩
  exact ⟨by rw [hu]; exact e a u hu hpl.1, q2⟩
end
def caughtM (T : List (Addr × Str)) (L : List String) (cs : List Nat) (fe : M D) : M D := fun Γ => if Γ.ds.T = T then match fe (maskG (frzAt cs Γ)) with
    | .ok _ G' => .ok .non { frzAt cs Γ with ds := G'.ds }
    | .exc n S => if n ∈ L then .ok (.exc n) { frzAt cs Γ with ds := S } else .stuck
    | .stuck => .stuck
  else .stuck
theorem se_caught {X : Cx} {E : XK} {e : Expr} {T : List (Addr × Str)} {CS : Addr} {fe : M D} {L : List String} (cs : List Nat) (hL : ∀ n ∈ L, PySem.W.exmOne X.K (.ref (ce X.K n)) (.ref CS) = some true) (hp : PE X e (LamX.tLam T (TTcaught X.K CS) fun E => tOf X.K E fe)) :
    PE X e (tOf X.K E (caughtM T L cs fe)) :=
  PE_imp hp fun σ H Q ⟨c, g, F, Γ, hK, R, h⟩ => by
    unfold caughtM at h
    split at h
    · rename_i hT
      refine ⟨hT ▸ R.tab, fun H1 e1 t1 => ?_⟩
      obtain ⟨F1, s1, R0⟩ := Rel.frzS cs R
      have R1 := R0.extN (H1 := H1) e1 (by rw [frzAt_ds, hT]; exact t1)
      refine ⟨c, ⟨H1, F1, H1, none⟩, F1, maskG (frzAt cs Γ), hK, R1.mask, ?_⟩
      cases hr : fe (maskG (frzAt cs Γ)) with
      | stuck => rw [hr] at h; exact h.elim
      | ok d G' =>
        rw [hr] at h
        exact fun v H' F' R' s' r' => h .non H' F' (R1.back R'.drop s') (s1.trans s') .non
      | exc n S =>
        rw [hr] at h
        dsimp only at h
        split at h
        · rename_i hn
          intro H' F' R' s'
          have q := hL n hn
          rw [← hK] at q
          refine ⟨by rw [← hK]; exact q, rfl, fun a ha => ?_⟩
          have RB := R1.back R' s'
          exact h (.ref a) _ _ (RB.lay ha nt_ext) ((s1.trans s').trans (same_upd (RB.fresh ha).2.2.2.1)) (.exc upd_same)
        · exact h.elim
    · exact h.elim
end DS
set_option maxRecDepth 100000
set_option maxHeartbeats 4000000
namespace DS
open PySem PySem.Spec L2
def showP (p : PyData) : Option D := if p.showable && (SeqAt.shaped p && decide (p.shown.length ≤ 16777216)) then some (.str p.shown) else none
def reprD : List D → Option D
  | [.non] => some (.str "None")
  | [.tup ds] => match D.pds ds with
    | some ps => showP (.tuple ps)
    | none => none
  | [.lst ds] => match D.pds ds with
    | some ps => showP (.list ps)
    | none => none
  | _ => none
section
variable {X : Cx}
theorem cd_repr (hgd : X.A.guards = some []) (hu : X.A.units + 70 < cLine) : CallR X (.builtin "repr") (rC X.K reprD) := by
  intro pins s σ H xs us Q I r h
  obtain ⟨c, g, F, σ', Γ, ds, d, hK, R, rs, ho, q⟩ := h
  unfold reprD at ho
  split at ho
  · cases ho
    cases rs with
    | cons r1 r2 =>
      cases r2
      cases r1
      cases r with
      | cons rx rn =>
        cases rn
        cases rx
        refine P.repr_of_none ?_
        exact ⟨.str _, H, I.tok _, ⟨_, rfl⟩, rd_same R (.str _) q⟩
  · rename_i es
    split at ho
    · rename_i ps hp
      unfold showP at ho
      split at ho
      · rename_i hc
        rw [Bool.and_eq_true, Bool.and_eq_true] at hc
        obtain ⟨c1, c2, c3⟩ := hc
        cases ho
        cases rs with
        | cons r1 r2 =>
          cases r2
          cases r1 with
          | @tup a ys _ ha ra =>
            cases r with
            | cons rx rn =>
              cases rn
              cases rx
              have p1 : Dp X.K H (.ref a) (.tuple ps) := .tup (.inl (.inl (R.sub _ _ ha))) (dps_of R.sub ra hp)
              obtain ⟨as, q1⟩ := Dp.reads I _ _ _ p1 rfl
              have hd := SeqAt.depth_of_shaped c2
              refine repr_of_reads' q1 c1 (PyData.noDict_hsm (PyData.hasDict_of_canLay _ (SeqAt.canLay_of_shaped c2))) hgd (by omega) (fun _ _ k => k) (fun h' u tk k => ?_) (by rw [← line_ok]; exact of_decide_eq_true c3)
              exact ⟨.str _, H, I.kept (t' := tk) k, ⟨u, rfl⟩, rd_same R (.str _) q⟩
      · cases ho
    · cases ho
  · rename_i es
    split at ho
    · rename_i ps hp
      unfold showP at ho
      split at ho
      · rename_i hc
        rw [Bool.and_eq_true, Bool.and_eq_true] at hc
        obtain ⟨c1, c2, c3⟩ := hc
        cases ho
        cases rs with
        | cons r1 r2 =>
          cases r2
          have p1 := dp_of (K := X.K) R.sub r1 (show D.pd (.lst es) = some (.list ps) by show (D.pds es).map PyData.list = _; rw [hp]; rfl)
          cases r1 with
          | @lst a ys _ ha ra =>
            cases r with
            | cons rx rn =>
              cases rn
              cases rx
              obtain ⟨as, q1⟩ := Dp.reads I _ _ _ p1 rfl
              have hd := SeqAt.depth_of_shaped c2
              refine repr_of_reads' q1 c1 (PyData.noDict_hsm (PyData.hasDict_of_canLay _ (SeqAt.canLay_of_shaped c2))) hgd (by omega) (fun _ _ k => k) (fun h' u tk k => ?_) (by rw [← line_ok]; exact of_decide_eq_true c3)
              exact ⟨.str _, H, I.kept (t' := tk) k, ⟨u, rfl⟩, rd_same R (.str _) q⟩
      · cases ho
    · cases ho
  · cases ho
end
end DS
set_option maxRecDepth 100000
set_option maxHeartbeats 4000000
namespace DS
open PySem PySem.Spec L2
theorem passN {X : Cx} : Passes (L2.CX X.prog X.w) X EN := fun _ _ _ _ _ _ _ ⟨_, _, _, _, _, _, _, _, _, _, _, _, hE⟩ => hE.elim
section
variable {P : Program} {w : World} {K : PySem.W.Frag} {mg : Str → Option Value} {base : Heap} {N : List Str} {qual : Str} {scope : Scope} {f : Addr} {cdv : Value} {A : Around} {outer : List Env} {s : Shared} {H : Hp} {E : XK}
theorem takesC : Takes (cxOf (L2.CX P w) P w K mg base N qual scope f cdv A outer s H E) fun cls d _ H => E cls d H := takes_of rfl rfl rfl rfl
theorem passC : Passes (L2.CX P w) (cxOf (L2.CX P w) P w K mg base N qual scope f cdv A outer s H E) E := passes_call takesC fun _ _ _ _ h => h
theorem ownC : PassesOwn (model P w) (cxOf (L2.CX P w) P w K mg base N qual scope f cdv A outer s H E).A (cxOf (L2.CX P w) P w K mg base N qual scope f cdv A outer s H E).env (cxOf (L2.CX P w) P w K mg base N qual scope f cdv A outer s H E).xe := passes_of rfl
end
section
variable {X : Cx} {scope : Scope} {f c' : Addr} {A : Around} {outer : List Env} {s : Shared} {H : Hp} {E : XK}
theorem takesL : Takes (LamX.lamCx X A outer s H E scope f c') fun cls d _ H => E cls d H := takes_of rfl rfl rfl rfl
theorem passL : Passes (L2.CX X.prog X.w) (LamX.lamCx X A outer s H E scope f c') E := passes_call takesL fun _ _ _ _ h => h
end
theorem hu1 {k : Nat} {A : Around} (r : Room k A) : A.units + 1 < cLine := by have := r.un; omega
theorem hu64 {k : Nat} {A : Around} (r : Room k A) : A.units + 64 < cLine := by have := r.un; omega
theorem hu70 {k : Nat} {A : Around} (r : Room k A) : A.units + 70 < cLine := by have := r.un; omega
/-- what is never reached -/
def stuckS : SM := fun _ => .stuck
theorem ss_never {X : Cx} {E : XK} {st : Stmt} : PS X st (sOf X.K E stuckS) := PS_imp ps_never fun Dd σ H ⟨_, _, _, _, _, _, h⟩ => h.elim
/-- a fact on an exception class of the program -/
def XFact (K : PySem.W.Frag) (mg : Str → Option Value) (x : String) : Prop := (PySem.W.excIn K (ce K x) He.veBase "ValueError.__new__" = true ∧ PySem.W.keepIn K (.ref (ce K x)) = true ∧ PySem.W.subIn K (.ref (ce K x)) (.type "BaseException") = some true ∧ PySem.W.typeIn K (.ref (ce K x)) = some (.type "type")) ∧ mg (PySem.Str.ofString x) = some (.ref (ce K x))
theorem fun_ok {P : Program} {w : World} {K : PySem.W.Frag} {mg : Str → Option Value} {base : Heap} {x : String} {qual : Str} {params : Arguments} {body : List Stmt} {scope : Scope} {fd : FuncData} {N ps : List Str} {n k : Nat} (F : FunD K (PySem.Str.ofString x) qual params body scope [] [] (ce K x) fd) (S : FnScope N ps scope) (hn : ps.length = n)
    (gm : mg (PySem.Str.ofString x) = some (.ref (ce K x)))
    (hb : ∀ (kV doc pm : Value) (an : Option Addr) (cdv ct : Value) (us : List Value), us.length = ps.length → bindArgs (PySem.W.fnOf (PySem.Str.ofString x) qual params body scope .none kV doc pm an cdv ct) ⟨us, []⟩ = pure (ps.zip us)) (f : SM)
    (hbody : ∀ (cdv : Value) (A : Around) (outer : List Env) (s : Shared) (H : Hp) (E : XK), Room k (A.deeper (PyProof.Rows.envOfC qual scope s.heap.objs.size (ce K x) cdv)) →
      PSs (cxOf (L2.CX P w) P w K mg base N qual scope (ce K x) cdv A outer s H E) body (sOf K E f)) : DF P w K mg base x n (k + 1) (runD N.length f) :=
  df_ok F S hn gm hb f hbody fun _ _ _ _ => rfl
end DS
namespace DS
open PySem PySem.Spec L2
/-- a list's last datum, if it is a list -/
def splitL (ds : List D) : Option (List D × List D) := match ds.getLast? with
  | some (.lst es) => some (ds.dropLast, es)
  | _ => none
theorem splitL_last (ds es : List D) : splitL (ds ++ [.lst es]) = some (ds, es) := by
  unfold splitL
  rw [List.getLast?_append]
  simp
end DS
namespace DS
open PySem PySem.Spec L2
end DS
set_option maxRecDepth 100000
set_option maxHeartbeats 4000000
namespace DS
open PySem PySem.Spec L2
def FOk (r : RD) (P : D → DrawSt → Prop) : Prop := match r with
  | .ok d S => P d S
  | _ => False
def wp {α : Type} (r : Res α) (P : α → G → Prop) : Prop := match r with
  | .ok a Γ => P a Γ
  | _ => False
section
variable {α β : Type} {P P' : α → G → Prop} {Γ : G}
@[simp] theorem wp_ok {a : α} : wp (.ok a Γ) P = P a Γ := rfl
@[simp] theorem wp_stuck : wp (.stuck : Res α) P = False := rfl
@[simp] theorem wp_exc {n : String} {S : DrawSt} : wp (.exc n S : Res α) P = False := rfl
theorem wp_bind {Q : β → G → Prop} {r : Res α} {k : α → G → Res β} : wp (r.bind k) Q = wp r fun a Γ => wp (k a Γ) Q := by cases r <;> rfl
theorem wp_mono {r : Res α} (h : wp r P) (k : ∀ a Γ, P a Γ → P' a Γ) : wp r P' := by cases r <;> first | exact k _ _ h | exact h
theorem FOk.mono {r : RD} {P P' : D → DrawSt → Prop} (h : FOk r P) (k : ∀ d S, P d S → P' d S) : FOk r P' := by cases r <;> first | exact k _ _ h | exact h
@[simp] theorem FOk_ok {d : D} {S : DrawSt} {P : D → DrawSt → Prop} : FOk (.ok d S) P = P d S := rfl
end
section
variable {fa fb fc : M D} {ta tb : M Bool} {Γ : G} {P : D → G → Prop} {B : Bool → G → Prop} {A : List D → G → Prop} {Q : Fl → G → Prop}
@[simp] theorem wp_ret {α : Type} {a : α} {P : α → G → Prop} : wp (retM a Γ) P = P a Γ := rfl
@[simp] theorem wp_lift {α : Type} {o : Option α} {P : α → G → Prop} : wp (liftO o Γ) P = ∃ a, o = some a ∧ P a Γ := by
  unfold liftO
  cases o with
  | none => simp
  | some a => simp
def varE (env : List Slot) (i : Nat) (S : DrawSt) (P : D → G → Prop) : Option Slot → Prop
  | some (.val d) => P d ⟨env, S⟩
  | some (.own ds) => P (.lst ds) ⟨env.set i (.val (.lst ds)), S⟩
  | some (.ownd kvs) => P (.dic kvs) ⟨env.set i (.val (.dic kvs)), S⟩
  | some (.owno n fs) => P (.obj n fs) ⟨env.set i (.val (.obj n fs)), S⟩
  | _ => False
@[simp] theorem varE_val {env : List Slot} {i : Nat} {S : DrawSt} {d : D} : varE env i S P (some (.val d)) = P d ⟨env, S⟩ := rfl
@[simp] theorem varE_own {env : List Slot} {i : Nat} {S : DrawSt} {d : List D} : varE env i S P (some (.own d)) = P (.lst d) ⟨env.set i (.val (.lst d)), S⟩ := rfl
@[simp] theorem wp_varE {env : List Slot} {i : Nat} {S : DrawSt} : wp (varM i ⟨env, S⟩) P = varE env i S P env[i]? := by
  unfold varM varE
  dsimp only
  cases env[i]? with
  | none => rfl
  | some s => cases s <;> rfl
@[simp] theorem setV_mk {env : List Slot} {i : Nat} {S : DrawSt} {s : Slot} : setV i s ⟨env, S⟩ = ⟨env.set i s, S⟩ := rfl
@[simp] theorem wp_bin {op : D → D → Option D} : wp (binM op fa fb Γ) P = wp (fa Γ) fun x Γ1 => wp (fb Γ1) fun y Γ2 => ∃ d, op x y = some d ∧ P d Γ2 := by
  unfold binM
  simp only [wp_bind, wp_lift]
@[simp] theorem wp_bool : wp (boolM fa Γ) B = wp (fa Γ) fun d Γ1 => ∃ b, d = .bl b ∧ B b Γ1 := by
  unfold boolM
  rw [wp_bind]
  congr 1
  funext d Γ1
  cases d <;> simp
@[simp] theorem wp_not : wp (notM ta Γ) B = wp (ta Γ) fun b Γ1 => B (!b) Γ1 := by unfold notM; rw [wp_bind]; rfl
@[simp] theorem wp_and : wp (andM ta tb Γ) B = wp (ta Γ) fun b Γ1 => if b then wp (tb Γ1) B else B false Γ1 := by
  unfold andM
  rw [wp_bind]
  congr 1
  funext b Γ1
  cases b <;> rfl
@[simp] theorem wp_or : wp (orM ta tb Γ) B = wp (ta Γ) fun b Γ1 => if b then B true Γ1 else wp (tb Γ1) B := by
  unfold orM
  rw [wp_bind]
  congr 1
  funext b Γ1
  cases b <;> rfl
@[simp] theorem wp_ifM {α : Type} {f k : M α} {P : α → G → Prop} : wp (ifM ta f k Γ) P = wp (ta Γ) fun b Γ1 => if b then wp (f Γ1) P else wp (k Γ1) P := by
  unfold ifM
  rw [wp_bind]
  congr 1
  funext b Γ1
  cases b <;> rfl
@[simp] theorem wp_nilA : wp (nilA Γ) A = A [] Γ := rfl
@[simp] theorem wp_consA {r : M (List D)} : wp (consA fa r Γ) A = wp (fa Γ) fun d Γ1 => wp (r Γ1) fun ds Γ2 => A (d :: ds) Γ2 := by unfold consA; simp only [wp_bind, wp_ok]
@[simp] theorem wp_tup {r : M (List D)} : wp (tupM r Γ) P = wp (r Γ) fun ds Γ1 => ds.length ≤ 16777216 ∧ P (.tup ds) Γ1 := by
  unfold tupM
  rw [wp_bind]
  congr 1
  funext ds Γ1
  split
  · rename_i h; simp [h]
  · rename_i h; simp [h]
@[simp] theorem wp_lst {r : M (List D)} : wp (lstM r Γ) A = wp (r Γ) fun ds Γ1 => ds.length ≤ 16777216 ∧ A ds Γ1 := by
  unfold lstM
  rw [wp_bind]
  congr 1
  funext ds Γ1
  split
  · rename_i h; simp [h]
  · rename_i h; simp [h]
@[simp] theorem wp_lstV {r : M (List D)} : wp (lstV r Γ) P = wp (r Γ) fun ds Γ1 => P (.lst ds) Γ1 := by unfold lstV; simp only [wp_bind, wp_ok]
@[simp] theorem wp_app {op : List D → Option D} {r : M (List D)} : wp (appM op r Γ) P = wp (r Γ) fun ds Γ1 => ∃ d, op ds = some d ∧ P d Γ1 := by unfold appM; simp only [wp_bind, wp_lift]
@[simp] theorem wp_appL {op : List D → Option (List D)} {r : M (List D)} : wp (appL op r Γ) A = wp (r Γ) fun ds Γ1 => ∃ d, op ds = some d ∧ A d Γ1 := by unfold appL; simp only [wp_bind, wp_lift]
@[simp] theorem wp_neg : wp (negM fa Γ) P = wp (fa Γ) fun d Γ1 => ∃ i, d = .int i ∧ P (.int (-i)) Γ1 := by
  unfold negM
  rw [wp_bind]
  congr 1
  funext d Γ1
  cases d <;> simp
@[simp] theorem wp_call {n : Nat} {Fm : FM} {r : M (List D)} : wp (callM n Fm r Γ) P = wp (r Γ) fun ds Γ1 => ds.length = n ∧ FOk (Fm ds Γ1.ds) fun d S => P d { Γ1 with ds := S } := by
  unfold callM
  rw [wp_bind]
  congr 1
  funext ds Γ1
  split
  · rename_i h
    cases Fm ds Γ1.ds <;> simp [FOk, h]
  · rename_i h
    simp [h]
@[simp] theorem wp_skip : wp (skipS Γ) Q = Q .nx Γ := rfl
@[simp] theorem wp_seq {f k : SM} : wp (seqS f k Γ) Q = wp (f Γ) fun fl Γ1 => match fl with
    | .nx => wp (k Γ1) Q
    | .ret d => Q (.ret d) Γ1
    | .bk => Q .bk Γ1
    | .ct => Q .ct Γ1 := by
  unfold seqS
  rw [wp_bind]
  congr 1
  funext fl Γ1
  cases fl <;> rfl
@[simp] theorem wp_retS : wp (retS fa Γ) Q = wp (fa Γ) fun d Γ1 => Q (.ret d) Γ1 := by unfold retS; simp only [wp_bind, wp_ok]
@[simp] theorem wp_exprS : wp (exprS fa Γ) Q = wp (fa Γ) fun _ Γ1 => Q .nx Γ1 := by unfold exprS; simp only [wp_bind, wp_ok]
@[simp] theorem wp_ifS {f k : SM} : wp (ifS ta f k Γ) Q = wp (ta Γ) fun b Γ1 => if b then wp (f Γ1) Q else wp (k Γ1) Q := by
  unfold ifS
  rw [wp_bind]
  congr 1
  funext b Γ1
  cases b <;> rfl
@[simp] theorem wp_setS {i : Nat} : wp (setS i fa Γ) Q = wp (fa Γ) fun d Γ1 => Q .nx (setV i (.val d) Γ1) := by unfold setS; simp only [wp_bind, wp_ok]
@[simp] theorem wp_setLS {i : Nat} {r : M (List D)} : wp (setLS i r Γ) Q = wp (r Γ) fun ds Γ1 => Q .nx (setV i (.own ds) Γ1) := by unfold setLS; simp only [wp_bind, wp_ok]
@[simp] theorem wp_asg {tg : TM} : wp (asgS tg fa Γ) Q = wp (fa Γ) fun d Γ1 => ∃ Γ2, tg d Γ1 = some Γ2 ∧ Q .nx Γ2 := by
  unfold asgS
  rw [wp_bind]
  congr 1
  funext d Γ1
  cases tg d Γ1 <;> simp
@[simp] theorem fok_run {n : Nat} {f : SM} {args : List D} {S : DrawSt} {R : D → DrawSt → Prop} : FOk (runD n f args S) R = wp (f ⟨env0 n args, S⟩) fun fl Γ => match fl with
    | .ret d => R d Γ.ds
    | .nx => R .non Γ.ds
    | _ => False := by
  unfold runD
  cases h : f ⟨env0 n args, S⟩ with
  | ok a Γ => cases a <;> rfl
  | exc n S => rfl
  | stuck => rfl
/-- a for loop, by what holds before the items that are left -/
theorem wp_for {tg : TM} {body : SM} (I : List D → G → Prop) : ∀ {ds : List D} {Γ : G}, I ds Γ → (∀ Γ, I [] Γ → Q .nx Γ) →
    (∀ d r Γ, I (d :: r) Γ → ∃ Γ1, tg d Γ = some Γ1 ∧ wp (body Γ1) fun fl Γ2 => match fl with
      | .nx => I r Γ2
      | .ct => I r Γ2
      | .bk => Q .nx Γ2
      | .ret v => Q (.ret v) Γ2) → wp (forS tg body ds Γ) Q
  | [], Γ, h, h0, _ => h0 Γ h
  | d :: r, Γ, h, h0, hs => by
    obtain ⟨Γ1, e, w⟩ := hs d r Γ h
    unfold forS
    rw [e]
    show wp ((body Γ1).bind _) Q
    rw [wp_bind]
    refine wp_mono w fun fl Γ2 q => ?_
    cases fl with
    | nx => exact wp_for I q h0 hs
    | ct => exact wp_for I q h0 hs
    | bk => exact q
    | ret v => exact q
@[simp] theorem wp_forM {fi : M (List D)} {tg : TM} {body : SM} : wp (forM' fi tg body Γ) Q = wp (fi Γ) fun ds Γ1 => wp (forS tg body ds Γ1) Q := by unfold forM'; rw [wp_bind]
end
@[simp] theorem wp_andV {fa fb : M D} {Γ : G} {P : D → G → Prop} : wp (andV fa fb Γ) P = wp (fa Γ) fun d Γ1 => ∃ b, d = .bl b ∧ if b then wp (fb Γ1) P else P (.bl false) Γ1 := by
  unfold andV
  rw [wp_bind]
  congr 1
  funext d Γ1
  cases d with
  | bl b => cases b <;> simp
  | _ => simp
@[simp] theorem wp_orV {fa fb : M D} {Γ : G} {P : D → G → Prop} : wp (orV fa fb Γ) P = wp (fa Γ) fun d Γ1 => ∃ b, d = .bl b ∧ if b then P (.bl true) Γ1 else wp (fb Γ1) P := by
  unfold orV
  rw [wp_bind]
  congr 1
  funext d Γ1
  cases d with
  | bl b => cases b <;> simp
  | _ => simp
@[simp] theorem wp_notV {fa : M D} {Γ : G} {P : D → G → Prop} : wp (notV fa Γ) P = wp (fa Γ) fun d Γ1 => ∃ b, d = .bl b ∧ P (.bl (!b)) Γ1 := by
  unfold notV
  rw [wp_bind]
  congr 1
  funext d Γ1
  cases d <;> simp
@[simp] theorem wp_chain {o1 o2 : D → D → Option D} {fa fb fc : M D} {Γ : G} {P : D → G → Prop} : wp (chainM o1 o2 fa fb fc Γ) P = wp (fa Γ) fun x Γ1 => wp (fb Γ1) fun y Γ2 => ∃ b, o1 x y = some (.bl b) ∧ if b then wp (fc Γ2) fun z Γ3 => ∃ d, o2 y z = some d ∧ P d Γ3 else P (.bl false) Γ2 := by
  unfold chainM
  simp only [wp_bind]
  congr 1
  funext x Γ1
  congr 1
  funext y Γ2
  cases h : o1 x y with
  | none => simp
  | some d =>
    cases d with
    | bl b =>
      cases b with
      | true => simp [wp_bind, wp_lift]
      | false => simp
    | _ => simp
@[simp] theorem wp_for_nil {tg : TM} {body : SM} {Γ : G} {Q : Fl → G → Prop} : wp (forS tg body [] Γ) Q = Q .nx Γ := rfl
@[simp] theorem wp_for_cons {tg : TM} {body : SM} {d : D} {r : List D} {Γ : G} {Q : Fl → G → Prop} : wp (forS tg body (d :: r) Γ) Q = ∃ Γ1, tg d Γ = some Γ1 ∧ wp (body Γ1) fun fl Γ2 => match fl with
    | .nx => wp (forS tg body r Γ2) Q
    | .ct => wp (forS tg body r Γ2) Q
    | .bk => Q .nx Γ2
    | .ret v => Q (.ret v) Γ2 := by
  show wp (match tg d Γ with | none => _ | some Γ1 => _) Q = _
  cases tg d Γ with
  | none => simp
  | some Γ1 =>
    simp only [Option.some.injEq, exists_eq_left', wp_bind]
    congr 1
    funext fl Γ2
    cases fl <;> rfl
@[simp] theorem tgN_mk {i : Nat} {d : D} {env : List Slot} {S : DrawSt} : tgN i d ⟨env, S⟩ = some ⟨env.set i (.val d), S⟩ := rfl
@[simp] theorem tgNil_mk {Γ : G} : tgNil [] Γ = some Γ := rfl
@[simp] theorem tgCons_mk {t : TM} {u : TMs} {d : D} {r : List D} {Γ : G} : tgCons t u (d :: r) Γ = (t d Γ).bind fun Γ1 => u r Γ1 := rfl
theorem tgT_mk {n : Nat} {u : TMs} {ds : List D} {Γ : G} (h : ds.length = n) : tgT n u (.tup ds) Γ = u ds Γ := if_pos h
@[simp] theorem wp_raise {n : String} {Γ : G} {Q : Fl → G → Prop} : wp (raiseS n Γ) Q = False := rfl
@[simp] theorem wp_brk {Γ : G} {Q : Fl → G → Prop} : wp (brkS Γ) Q = Q .bk Γ := rfl
@[simp] theorem wp_cnt {Γ : G} {Q : Fl → G → Prop} : wp (cntS Γ) Q = Q .ct Γ := rfl
@[simp] theorem wp_seqM {fa : M D} {Γ : G} {P : List D → G → Prop} : wp (seqM fa Γ) P = wp (fa Γ) fun d Γ1 => ∃ ds, (d = .lst ds ∨ d = .tup ds) ∧ P ds Γ1 := by
  unfold seqM
  rw [wp_bind]
  congr 1
  funext d Γ1
  cases d <;> simp
@[simp] theorem wp_fld {n : String} {f : PySem.Str} {fa : M D} {Γ : G} {P : D → G → Prop} : wp (fldM n f fa Γ) P = wp (fa Γ) fun d Γ1 => ∃ e, fldD n f d = some e ∧ P e Γ1 := by unfold fldM; simp only [wp_bind, wp_lift]
theorem fok_eq {r : RD} {d : D} {S : DrawSt} (h : FOk r fun d' S' => d' = d ∧ S' = S) : r = .ok d S := by
  cases r with
  | ok d' S' => obtain ⟨rfl, rfl⟩ := h; rfl
  | exc _ _ => exact h.elim
  | stuck => exact h.elim
theorem res_eq {α : Type} {r : Res α} {a : α} {Γ : G} (h : wp r fun a' Γ' => a' = a ∧ Γ' = Γ) : r = .ok a Γ := by
  cases r with
  | ok a' S' => obtain ⟨rfl, rfl⟩ := h; rfl
  | exc _ _ => exact h.elim
  | stuck => exact h.elim
@[simp] theorem wp_nilR {Γ : G} {A : List RV → G → Prop} : wp (nilR Γ) A = A [] Γ := rfl
@[simp] theorem wp_consR {α : Type} {k : α → RV} {f : M α} {r : M (List RV)} {Γ : G} {A : List RV → G → Prop} : wp (consR k f r Γ) A = wp (f Γ) fun d Γ1 => wp (r Γ1) fun ds Γ2 => A (k d :: ds) Γ2 := by unfold consR; simp only [wp_bind, wp_ok]
@[simp] theorem wp_par {is : List Nat} {f : M (List RV)} {Γ : G} {Q : Fl → G → Prop} : wp (parS is f Γ) Q = wp (f Γ) fun rs Γ1 => rs.length = is.length ∧ Q .nx (setsR is rs Γ1) := by
  unfold parS
  rw [wp_bind]
  congr 1
  funext rs Γ1
  split
  · rename_i h; simp [h]
  · rename_i h; simp [h]
@[simp] theorem setsR_cons {i : Nat} {is : List Nat} {r : RV} {rs : List RV} {Γ : G} : setsR (i :: is) (r :: rs) Γ = setsR is rs (setV i r.slot Γ) := rfl
@[simp] theorem setsR_nil {rs : List RV} {Γ : G} : setsR [] rs Γ = Γ := rfl
@[simp] theorem slot_v {d : D} : (RV.v d).slot = .val d := rfl
@[simp] theorem slot_l {d : List D} : (RV.l d).slot = .own d := rfl
@[simp] theorem slot_k {d : List (Key × D)} : (RV.k d).slot = .ownd d := rfl
@[simp] theorem wp_newK {kvs : List (Key × D)} {Γ : G} {A : List (Key × D) → G → Prop} : wp (newK kvs Γ) A = A kvs Γ := rfl
@[simp] theorem wp_range1 {r : M (List D)} {Γ : G} {A : List D → G → Prop} : wp (range1M r Γ) A = wp (r Γ) fun ds Γ1 => ∃ j, ds = [.int j] ∧ okR j = true ∧ A (rangeL 0 j) Γ1 := by
  unfold range1M
  rw [wp_bind]
  congr 1
  funext ds Γ1
  split
  · rename_i j
    split
    · rename_i h; simp [h]
    · rename_i h; simp [h]
  · rename_i h
    simp
    intro j e
    exact absurd e (h j)
/-- a while loop: by a measure -/
theorem wp_while {t : M Bool} {body : SM} {Q : Fl → G → Prop} (I : Nat → G → Prop) : ∀ (n m : Nat) {Γ : G}, m < n → I m Γ → (∀ m Γ, I m Γ → wp (t Γ) fun b Γ1 => if b then wp (body Γ1) fun fl Γ2 => match fl with
      | .nx => ∃ m', m' < m ∧ I m' Γ2
      | .ct => ∃ m', m' < m ∧ I m' Γ2
      | .bk => Q .nx Γ2
      | .ret v => Q (.ret v) Γ2
    else Q .nx Γ1) → wp (whileS t body n Γ) Q
  | 0, m, Γ, h, _, _ => absurd h (Nat.not_lt_zero _)
  | n + 1, m, Γ, h, hI, hs => by
    unfold whileS
    rw [wp_bind]
    refine wp_mono (hs m Γ hI) fun b Γ1 q => ?_
    cases b with
    | false => exact q
    | true =>
      simp only [if_true] at q ⊢
      rw [wp_bind]
      refine wp_mono q fun fl Γ2 q => ?_
      cases fl with
      | nx =>
        obtain ⟨m', hm, hI'⟩ := q
        exact wp_while I n m' (by omega) hI' hs
      | ct =>
        obtain ⟨m', hm, hI'⟩ := q
        exact wp_while I n m' (by omega) hI' hs
      | bk => exact q
      | ret v => exact q
/-- a comprehension of pure pieces -/
theorem lc_pure {vs : List Nat} {tg : TM} {tt : M Bool} {te : M D} {Γw : G} (f : D → Bool) (y : D → D) : ∀ {ds acc : List D}, (∀ d ∈ ds, ∃ Γ1, tg d Γw = some Γ1 ∧ tt Γ1 = .ok (f d) Γ1 ∧ (f d = true → te Γ1 = .ok (y d) Γ1) ∧ wipeG vs Γ1 = Γw) → acc.length + ds.length ≤ 16777216 →
    lcS vs tg tt te ds acc Γw = .ok (acc ++ (ds.filter f).map y) Γw
  | [], acc, _, _ => by simp [lcS]
  | d :: r, acc, h, hl => by
    obtain ⟨Γ1, e1, e2, e3, e4⟩ := h d List.mem_cons_self
    have hr : ∀ d ∈ r, ∃ Γ1, tg d Γw = some Γ1 ∧ tt Γ1 = .ok (f d) Γ1 ∧ (f d = true → te Γ1 = .ok (y d) Γ1) ∧ wipeG vs Γ1 = Γw := fun d hd => h d (List.mem_cons_of_mem _ hd)
    rw [List.length_cons] at hl
    unfold lcS
    rw [e1]
    show ((nox (tt Γ1)).bind fun k Γ2 => _) = _
    rw [e2]
    show (if f d = true then _ else _) = _
    cases hf : f d with
    | false =>
      rw [if_neg Bool.false_ne_true, e4, lc_pure f y hr (by omega)]
      simp [hf]
    | true =>
      rw [if_pos rfl, e3 hf]
      show (if acc.length < 16777216 then lcS vs tg tt te r (acc ++ [y d]) (wipeG vs Γ1) else _) = _
      rw [if_pos (by omega), e4, lc_pure f y hr (by rw [List.length_append, List.length_singleton]; omega)]
      simp [hf]
@[simp] theorem wp_lcM {vs : List Nat} {fi : M (List D)} {tg : TM} {tt : M Bool} {te : M D} {Γ : G} {A : List D → G → Prop} : wp (lcM vs fi tg tt te Γ) A = wp (fi Γ) fun ds Γ1 => wp (lcS vs tg tt te ds [] (wipeG vs Γ1)) A := by unfold lcM; rw [wp_bind]
end DS
namespace DS
open PySem PySem.Spec L2
section
variable {env : List Slot} {i : Nat} {S : DrawSt} {P : D → G → Prop}
def peekE : Option Slot → Option (List D)
  | some (.own ds) => some ds
  | some (.val (.lst ds)) => some ds
  | some (.bor ds) => some ds
  | _ => none
@[simp] theorem peekE_own {ds : List D} : peekE (some (.own ds)) = some ds := rfl
@[simp] theorem peekE_val {ds : List D} : peekE (some (.val (.lst ds))) = some ds := rfl
@[simp] theorem peekE_bor {ds : List D} : peekE (some (.bor ds)) = some ds := rfl
@[simp] theorem peekL_mk : peekL i ⟨env, S⟩ = peekE env[i]? := by
  cases h : env[i]? with
  | none => simp [peekL, peekE, h]
  | some s => cases s with
    | val d => cases d <;> simp [peekL, peekE, h]
    | _ => simp [peekL, peekE, h]
@[simp] theorem wp_lenP {Γ : G} : wp (lenP i Γ) P = ∃ ds, peekL i Γ = some ds ∧ P (.int ds.length) Γ := by
  unfold lenP
  cases peekL i Γ <;> simp
@[simp] theorem wp_ixP {fb : M D} {Γ : G} : wp (ixP i fb Γ) P = ∃ ds0, peekL i Γ = some ds0 ∧ wp (fb Γ) fun y Γ1 => ∃ ds k d, peekL i Γ1 = some ds ∧ y = .int k ∧ atI ds k = some d ∧ P d Γ1 := by
  unfold ixP
  cases peekL i Γ with
  | none => simp
  | some ds0 =>
    simp only [Option.some.injEq, exists_eq_left', wp_bind]
    congr 1
    funext y Γ1
    cases h : peekL i Γ1 with
    | none => simp
    | some ds =>
      cases y <;> simp [wp_lift]
@[simp] theorem wp_cmpP {op : D → D → Option D} {fb : M D} {Γ : G} : wp (cmpP op i fb Γ) P = ∃ ds0, peekL i Γ = some ds0 ∧ wp (fb Γ) fun y Γ1 => ∃ ds d, peekL i Γ1 = some ds ∧ op (.lst ds) y = some d ∧ P d Γ1 := by
  unfold cmpP
  cases peekL i Γ with
  | none => simp
  | some ds0 =>
    simp only [Option.some.injEq, exists_eq_left', wp_bind]
    congr 1
    funext y Γ1
    cases h : peekL i Γ1 with
    | none => simp
    | some ds => simp [wp_lift]
def ownE : Option Slot → Option (List D)
  | some (.own ds) => some ds
  | _ => none
@[simp] theorem ownE_own {ds : List D} : ownE (some (.own ds)) = some ds := rfl
@[simp] theorem wp_apM {fe : M D} {Γ : G} : wp (apM i fe Γ) P = ∃ ds0, ownE Γ.env[i]? = some ds0 ∧ wp (fe Γ) fun d Γ1 => ∃ ds, ownE Γ1.env[i]? = some ds ∧ ds.length < 16777216 ∧ P .non (setV i (.own (ds ++ [d])) Γ1) := by
  unfold apM
  cases h : Γ.env[i]? with
  | none => simp [ownE]
  | some s =>
    cases s with
    | own ds0 =>
      simp only [ownE_own, Option.some.injEq, exists_eq_left', wp_bind]
      congr 1
      funext d Γ1
      cases h1 : Γ1.env[i]? with
      | none => simp [ownE]
      | some s1 =>
        cases s1 with
        | own ds =>
          simp only [ownE_own, Option.some.injEq, exists_eq_left']
          split
          · rename_i hl; simp [hl]
          · rename_i hl; simp [hl]
        | _ => simp [ownE]
    | _ => simp [ownE]
@[simp] theorem wp_popAt {fb : M D} {Γ : G} : wp (popAtM i fb Γ) P = ∃ ds0, ownE Γ.env[i]? = some ds0 ∧ wp (fb Γ) fun y Γ1 => ∃ ds k d, ownE Γ1.env[i]? = some ds ∧ y = .int k ∧ (0 ≤ k ∧ k < 2 ^ 63) ∧ ds[k.toNat]? = some d ∧ P d (setV i (.own (ds.eraseIdx k.toNat)) Γ1) := by
  unfold popAtM
  cases h : Γ.env[i]? with
  | none => simp [ownE]
  | some s =>
    cases s with
    | own ds0 =>
      simp only [ownE_own, Option.some.injEq, exists_eq_left', wp_bind]
      congr 1
      funext y Γ1
      cases h1 : Γ1.env[i]? with
      | none => simp [ownE]
      | some s1 =>
        cases s1 with
        | own ds =>
          cases y with
          | int k =>
            simp only [ownE_own, Option.some.injEq, exists_eq_left', D.int.injEq]
            by_cases hk : 0 ≤ k ∧ k < 2 ^ 63
            · rw [if_pos hk]
              cases h2 : ds[k.toNat]? with
              | none => simp [h2]
              | some d =>
                have k2 : k < 9223372036854775808 := by have := hk.2; omega
                simp [h2, hk.1, k2]
            · rw [if_neg hk]
              simp
              intro a b
              exact absurd ⟨a, by omega⟩ hk
          | _ => simp
        | _ => simp [ownE]
    | _ => simp [ownE]
@[simp] theorem wp_pop {Γ : G} : wp (popM i Γ) P = ∃ ds d, ownE Γ.env[i]? = some ds ∧ ds[ds.length - 1]? = some d ∧ P d (setV i (.own ds.dropLast) Γ) := by
  unfold popM
  cases h : Γ.env[i]? with
  | none => simp [ownE]
  | some s =>
    cases s with
    | own ds =>
      simp only [ownE_own, Option.some.injEq]
      cases h2 : ds[ds.length - 1]? with
      | none => simp [h2]
      | some d => simp [h2]
    | _ => simp [ownE]
@[simp] theorem wp_stget {k : SK} {fa : M D} {Γ : G} : wp (stGetM k fa Γ) P = wp (fa Γ) fun d Γ1 => d = .st ∧ P (stGetD k Γ1.ds) Γ1 := by
  unfold stGetM
  rw [wp_bind]
  congr 1
  funext d Γ1
  cases d <;> simp
@[simp] theorem wp_stput {k : SK} {fd fv : M D} {Γ : G} {Q : Fl → G → Prop} : wp (stPutM k fd fv Γ) Q = wp (fv Γ) fun v Γ1 => wp (fd Γ1) fun d Γ2 => d = .st ∧ ∃ i, v = .int i ∧ ∃ S, stPutD k i Γ2.ds = some S ∧ Q .nx { Γ2 with ds := S } := by
  unfold stPutM
  simp only [wp_bind]
  congr 1
  funext v Γ1
  congr 1
  funext d Γ2
  cases d with
  | st =>
    cases v with
    | int i =>
      simp only [true_and, D.int.injEq, exists_eq_left']
      cases stPutD k i Γ2.ds <;> simp
    | _ => simp
  | _ => simp
@[simp] theorem wp_great {fa fb : M D} {Γ : G} {B : Bool → G → Prop} : wp (greatNeM fa fb Γ) B = wp (fa Γ) fun x Γ1 => wp (fb Γ1) fun y Γ2 => x = .gr ∧ ∃ b, neD (.lst (Γ2.ds.great.map .int)) y = some (.bl b) ∧ B b Γ2 := by
  unfold greatNeM
  simp only [wp_bool, wp_bind]
  congr 1
  funext x Γ1
  congr 1
  funext y Γ2
  cases x with
  | gr =>
    simp [wp_lift]
    constructor
    · rintro ⟨a, h, ⟨rfl, h2⟩ | ⟨rfl, h2⟩⟩
      · exact .inl ⟨h, h2⟩
      · exact .inr ⟨h, h2⟩
    · rintro (⟨h, h2⟩ | ⟨h, h2⟩)
      · exact ⟨_, h, .inl ⟨rfl, h2⟩⟩
      · exact ⟨_, h, .inr ⟨rfl, h2⟩⟩
  | _ => simp
@[simp] theorem wp_popGreat {fa fb : M D} {Γ : G} : wp (popGreatM fa fb Γ) P = wp (fa Γ) fun x Γ1 => x = .gr ∧ wp (fb Γ1) fun y Γ2 => ∃ k, y = .int k ∧ (0 ≤ k ∧ k < 2 ^ 63) ∧ ∃ i, Γ2.ds.great[k.toNat]? = some i ∧ P (.int i) { Γ2 with ds := { Γ2.ds with great := Γ2.ds.great.eraseIdx k.toNat } } := by
  unfold popGreatM
  rw [wp_bind]
  congr 1
  funext x Γ1
  cases x with
  | gr =>
    simp only [true_and, wp_bind]
    congr 1
    funext y Γ2
    cases y with
    | int k =>
      simp only [D.int.injEq, exists_eq_left']
      by_cases hk : 0 ≤ k ∧ k < 2 ^ 63
      · rw [if_pos hk]
        cases h2 : Γ2.ds.great[k.toNat]? with
        | none => simp
        | some d =>
          have k2 : k < 9223372036854775808 := by have := hk.2; omega
          simp [hk.1, k2]
      · rw [if_neg hk]
        simp
        intro a b
        exact absurd ⟨a, by omega⟩ hk
    | _ => simp
  | _ => simp
@[simp] theorem wp_callB {n : Nat} {Fm : FM} {r : M (List D × List D)} {Γ : G} : wp (callB n Fm r Γ) P = wp (r Γ) fun p Γ1 => p.1.length + 1 = n ∧ FOk (Fm (p.1 ++ [.lst p.2]) Γ1.ds) fun d S => P d { Γ1 with ds := S } := by
  unfold callB
  rw [wp_bind]
  congr 1
  funext p Γ1
  split
  · rename_i h
    cases Fm (p.1 ++ [.lst p.2]) Γ1.ds <;> simp [FOk, h]
  · rename_i h
    simp [h]
@[simp] theorem wp_lastB {Γ : G} {A : List D × List D → G → Prop} : wp (lastB i Γ) A = ∃ es, peekL i Γ = some es ∧ A ([], es) Γ := by
  unfold lastB
  cases peekL i Γ <;> simp
@[simp] theorem wp_consB {f : M D} {r : M (List D × List D)} {Γ : G} {A : List D × List D → G → Prop} : wp (consB f r Γ) A = wp (f Γ) fun d Γ1 => wp (r Γ1) fun p Γ2 => A (d :: p.1, p.2) Γ2 := by unfold consB; simp only [wp_bind, wp_ok]
end
end DS
set_option maxRecDepth 100000
set_option maxHeartbeats 1000000
namespace DS
open PySem PySem.Spec L2
mutual
/-- data of ints, bools, None, tuples and lists, no deeper than n -/
def sdB : Nat → D → Bool
  | _, .non => true
  | _, .int _ => true
  | _, .bl _ => true
  | n + 1, .tup ds => sdsB n ds
  | n + 1, .lst ds => sdsB n ds
  | _, _ => false
def sdsB : Nat → List D → Bool
  | _, [] => true
  | n, d :: r => sdB n d && sdsB n r
end
mutual
theorem sd_pd : ∀ (n : Nat) (d : D), sdB n d = true → ∃ p, d.pd = some p ∧ p.canLay0 = true ∧ p.depth ≤ n
  | _, .non, _ => ⟨.none, rfl, rfl, Nat.zero_le _⟩
  | _, .int i, _ => ⟨.int i, rfl, rfl, Nat.zero_le _⟩
  | _, .bl b, _ => ⟨.bool b, rfl, rfl, Nat.zero_le _⟩
  | n + 1, .tup ds, h => by
    obtain ⟨ps, e, c, l⟩ := sds_pd n ds h
    exact ⟨.tuple ps, by show (D.pds ds).map PyData.tuple = _; rw [e]; rfl, by simpa [PyData.canLay0] using c, by show PyData.depthAll ps + 1 ≤ n + 1; omega⟩
  | n + 1, .lst ds, h => by
    obtain ⟨ps, e, c, l⟩ := sds_pd n ds h
    exact ⟨.list ps, by show (D.pds ds).map PyData.list = _; rw [e]; rfl, by simpa [PyData.canLay0] using c, by show PyData.depthAll ps + 1 ≤ n + 1; omega⟩
  | 0, .tup ds, h => by simp [sdB] at h
  | 0, .lst ds, h => by simp [sdB] at h
  | _, .str _, h => by simp [sdB] at h
  | _, .dic _, h => by simp [sdB] at h
  | _, .obj _ _, h => by simp [sdB] at h
  | _, .exc _, h => by simp [sdB] at h
  | _, .glob _, h => by simp [sdB] at h
  | _, .ty _, h => by simp [sdB] at h
  | _, .st, h => by simp [sdB] at h
  | _, .gr, h => by simp [sdB] at h
  | _, .scr _, h => by simp [sdB] at h
theorem sds_pd : ∀ (n : Nat) (ds : List D), sdsB n ds = true → ∃ ps, D.pds ds = some ps ∧ PyData.canLayAll0 ps = true ∧ PyData.depthAll ps ≤ n
  | _, [], _ => ⟨[], rfl, rfl, Nat.zero_le _⟩
  | n, d :: r, h => by
    unfold sdsB at h
    rw [Bool.and_eq_true] at h
    obtain ⟨p, e1, c1, l1⟩ := sd_pd n d h.1
    obtain ⟨ps, e2, c2, l2⟩ := sds_pd n r h.2
    refine ⟨p :: ps, ?_, ?_, ?_⟩
    · unfold D.pds; rw [e1, e2]
    · unfold PyData.canLayAll0; rw [c1, c2]; rfl
    · unfold PyData.depthAll; omega
end
mutual
/-- == of such data -/
def eqvD : D → D → Bool
  | .non, .non => true
  | .bl a, .bl b => a == b
  | .bl a, .int j => (if a then 1 else 0) == j
  | .int i, .bl b => i == (if b then 1 else 0)
  | .int i, .int j => i == j
  | .str x, .str y => x == y
  | .tup xs, .tup ys => eqvDs xs ys
  | .lst xs, .lst ys => eqvDs xs ys
  | _, _ => false
def eqvDs : List D → List D → Bool
  | [], [] => true
  | x :: xs, y :: ys => eqvD x y && eqvDs xs ys
  | _, _ => false
end
mutual
theorem eqv_pd : ∀ (a b : D) (p q : PyData), a.pd = some p → b.pd = some q → PyData.eqv p q = eqvD a b := by
  intro a b p q h1 h2
  cases a with
  | tup xs =>
    have h1' : (D.pds xs).map PyData.tuple = some p := h1
    cases e1 : D.pds xs with
    | none => rw [e1] at h1'; cases h1'
    | some ps =>
      rw [e1] at h1'
      cases h1'
      cases b with
      | tup ys =>
        have h2' : (D.pds ys).map PyData.tuple = some q := h2
        cases e2 : D.pds ys with
        | none => rw [e2] at h2'; cases h2'
        | some qs => rw [e2] at h2'; cases h2'; simp only [PyData.eqv, eqvD]; exact eqvs_pd xs ys ps qs e1 e2
      | lst ys =>
        have h2' : (D.pds ys).map PyData.list = some q := h2
        cases e2 : D.pds ys with
        | none => rw [e2] at h2'; cases h2'
        | some qs => rw [e2] at h2'; cases h2'; rfl
      | _ => cases h2 <;> rfl
  | lst xs =>
    have h1' : (D.pds xs).map PyData.list = some p := h1
    cases e1 : D.pds xs with
    | none => rw [e1] at h1'; cases h1'
    | some ps =>
      rw [e1] at h1'
      cases h1'
      cases b with
      | lst ys =>
        have h2' : (D.pds ys).map PyData.list = some q := h2
        cases e2 : D.pds ys with
        | none => rw [e2] at h2'; cases h2'
        | some qs => rw [e2] at h2'; cases h2'; simp only [PyData.eqv, eqvD]; exact eqvs_pd xs ys ps qs e1 e2
      | tup ys =>
        have h2' : (D.pds ys).map PyData.tuple = some q := h2
        cases e2 : D.pds ys with
        | none => rw [e2] at h2'; cases h2'
        | some qs => rw [e2] at h2'; cases h2'; rfl
      | _ => cases h2 <;> rfl
  | non | bl _ | int _ | str _ =>
    cases h1
    cases b with
    | tup ys =>
      have h2' : (D.pds ys).map PyData.tuple = some q := h2
      cases e2 : D.pds ys with
      | none => rw [e2] at h2'; cases h2'
      | some qs => rw [e2] at h2'; cases h2'; rfl
    | lst ys =>
      have h2' : (D.pds ys).map PyData.list = some q := h2
      cases e2 : D.pds ys with
      | none => rw [e2] at h2'; cases h2'
      | some qs => rw [e2] at h2'; cases h2'; rfl
    | _ => cases h2 <;> rfl
  | _ => cases h1
theorem eqvs_pd : ∀ (xs ys : List D) (ps qs : List PyData), D.pds xs = some ps → D.pds ys = some qs → PyData.eqvAll ps qs = eqvDs xs ys
  | [], [], _, _, h1, h2 => by cases h1; cases h2; rfl
  | [], y :: ys, _, qs, h1, h2 => by
    cases h1
    unfold D.pds at h2
    split at h2
    · cases h2; rfl
    · cases h2
  | x :: xs, [], ps, _, h1, h2 => by
    cases h2
    unfold D.pds at h1
    split at h1
    · cases h1; rfl
    · cases h1
  | x :: xs, y :: ys, ps, qs, h1, h2 => by
    unfold D.pds at h1 h2
    split at h1
    · rename_i p ps' e1 e2
      cases h1
      split at h2
      · rename_i q qs' e3 e4
        cases h2
        simp only [PyData.eqvAll, eqvDs]
        rw [eqv_pd x y p q e1 e3, eqvs_pd xs ys ps' qs' e2 e4]
      · cases h2
    · cases h1
end
theorem sd_ne {n m : Nat} {a b : D} (h1 : sdB n a = true) (h2 : sdB m b = true) (hn : n ≤ 64 := by decide) (hm : m ≤ 64 := by decide) : neD a b = some (.bl (!eqvD a b)) ∧ eqD a b = some (.bl (eqvD a b)) := by
  obtain ⟨p, e1, c1, l1⟩ := sd_pd n a h1
  obtain ⟨q, e2, c2, l2⟩ := sd_pd m b h2
  have s1 : SeqAt.shaped p = true := by unfold SeqAt.shaped; rw [c1]; simp; omega
  have s2 : SeqAt.shaped q = true := by unfold SeqAt.shaped; rw [c2]; simp; omega
  unfold neD eqD
  rw [e1, e2]
  simp [s1, s2, eqv_pd a b p q e1 e2]
@[simp] theorem ne_int (i j : Int) : neD (.int i) (.int j) = some (.bl (!decide (i = j))) := by
  rw [(sd_ne (n := 0) (m := 0) rfl rfl).1]
  simp [eqvD, Bool.beq_eq_decide_eq]
@[simp] theorem eq_int (i j : Int) : eqD (.int i) (.int j) = some (.bl (decide (i = j))) := by
  rw [(sd_ne (n := 0) (m := 0) rfl rfl).2]
  simp [eqvD, Bool.beq_eq_decide_eq]
@[simp] theorem ltA_int (i j : Int) : ltA (.int i) (.int j) = some (.bl (decide (i < j))) := rfl
@[simp] theorem leD_int (i j : Int) : leD (.int i) (.int j) = some (.bl (decide (i ≤ j))) := rfl
@[simp] theorem gtD_int (i j : Int) : gtD (.int i) (.int j) = some (.bl (decide (j < i))) := rfl
@[simp] theorem addD_int (i j : Int) : addD (.int i) (.int j) = some (.int (i + j)) := rfl
@[simp] theorem subD_int (i j : Int) : subD (.int i) (.int j) = some (.int (i - j)) := rfl
@[simp] theorem ixD_tup (ds : List D) (i : Int) : ixD (.tup ds) (.int i) = atI ds i := rfl
@[simp] theorem ixD_lst (ds : List D) (i : Int) : ixD (.lst ds) (.int i) = atI ds i := rfl
@[simp] theorem atI_0 (d : D) (r : List D) : atI (d :: r) 0 = some d := by
  have h : ixN (r.length + 1) 0 = some 0 := by unfold ixN; simp
  unfold atI
  rw [List.length_cons, h]
  rfl
@[simp] theorem atI_1 (d e : D) (r : List D) : atI (d :: e :: r) 1 = some e := by
  have h : ixN (r.length + 1 + 1) 1 = some 1 := by unfold ixN; rw [if_pos (by decide), if_pos (by omega)]; rfl
  unfold atI
  rw [List.length_cons, List.length_cons, h]
  rfl
@[simp] theorem atI_2 (d e f : D) (r : List D) : atI (d :: e :: f :: r) 2 = some f := by
  have h : ixN (r.length + 1 + 1 + 1) 2 = some 2 := by unfold ixN; rw [if_pos (by decide), if_pos (by omega)]; rfl
  unfold atI
  rw [List.length_cons, List.length_cons, List.length_cons, h]
  rfl
@[simp] theorem lenD_tup (ds : List D) : lenD [.tup ds] = some (.int ds.length) := rfl
@[simp] theorem lenD_lst (ds : List D) : lenD [.lst ds] = some (.int ds.length) := rfl
/-- lexicographic order of three -/
def lex3 (a b c a' b' c' : Int) : Bool := decide (a < a') || (decide (a = a') && (decide (b < b') || (decide (b = b') && decide (c < c'))))
theorem modD_int {i j : Int} (h : j ≠ 0) : modD (.int i) (.int j) = some (.int (i.fmod j)) := by
  simp [modD, intOp, h]
theorem divD_int {i j : Int} (h : j ≠ 0) (hj : j.natAbs < 1073741824) : divD (.int i) (.int j) = some (.int (i.fdiv j)) := by
  simp [divD, intOp, okDiv, h, hj]
theorem mulD_small {i j : Int} (h : smallI i = true) : mulD (.int i) (.int j) = some (.int (i * j)) := by
  unfold mulD okMul
  simp [h]
theorem mulD_smallR {i j : Int} (h : smallI j = true) : mulD (.int i) (.int j) = some (.int (i * j)) := by
  unfold mulD okMul
  simp [h]
@[simp] theorem min2D_int (i j : Int) : min2D [.int i, .int j] = some (.int (if j < i then j else i)) := rfl
@[simp] theorem isnt_non : isntD .non .non = some (.bl false) := rfl
@[simp] theorem isnt_tup (ds : List D) : isntD (.tup ds) .non = some (.bl true) := rfl
@[simp] theorem is_non : isD .non .non = some (.bl true) := rfl
@[simp] theorem is_bl (a b : Bool) : isD (.bl a) (.bl b) = some (.bl (decide (a = b))) := rfl
@[simp] theorem addD_tup (xs ys : List D) (h : xs.length + ys.length ≤ 16777216) : addD (.tup xs) (.tup ys) = some (.tup (xs ++ ys)) := if_pos h
theorem addD_lst {xs ys : List D} (h : xs.length + ys.length ≤ 16777216) : addD (.lst xs) (.lst ys) = some (.lst (xs ++ ys)) := if_pos h
theorem exc_run {n : Nat} {f : SM} {args : List D} {S S' : DrawSt} {x : String} (h : f ⟨env0 n args, S⟩ = .exc x S') : runD n f args S = .exc x S' := by unfold runD; rw [h]
theorem exc_seq1 {f k : SM} {Γ : G} {x : String} {S : DrawSt} (h : f Γ = .exc x S) : seqS f k Γ = .exc x S := by unfold seqS; rw [h]; rfl
theorem exc_seq2 {f k : SM} {Γ Γ1 : G} {x : String} {S : DrawSt} (h : f Γ = .ok .nx Γ1) (h2 : k Γ1 = .exc x S) : seqS f k Γ = .exc x S := by unfold seqS; rw [h]; exact h2
theorem exc_if {t : M Bool} {f k : SM} {Γ Γ1 : G} {x : String} {S : DrawSt} (h : t Γ = .ok true Γ1) (h2 : f Γ1 = .exc x S) : ifS t f k Γ = .exc x S := by unfold ifS; rw [h]; exact h2
theorem exc_expr {fa : M D} {Γ : G} {x : String} {S : DrawSt} (h : fa Γ = .exc x S) : exprS fa Γ = .exc x S := by unfold exprS; rw [h]; rfl
theorem exc_call {n : Nat} {Fm : FM} {fa : M (List D)} {Γ Γ1 : G} {ds : List D} {x : String} {S : DrawSt} (h : fa Γ = .ok ds Γ1) (hl : ds.length = n) (h2 : Fm ds Γ1.ds = .exc x S) : callM n Fm fa Γ = .exc x S := by
  unfold callM
  rw [h]
  show (if ds.length = n then _ else _) = _
  rw [if_pos hl, h2]
end DS
set_option maxRecDepth 100000
set_option maxHeartbeats 4000000
namespace PR
open PySem PySem.Spec L2 DS
def FUEL : Nat := 100000000
abbrev N_is_number : List PySem.Str := ["value"]
def m_is_number (K : PySem.W.Frag) : SM := (retS (andV (appM (isiD K) (consA (varM 0) (consA (retM (.ty "int")) nilA))) (notV (appM (isiD K) (consA (varM 0) (consA (retM (.ty "bool")) nilA))))))
def F_is_number (K : PySem.W.Frag) : FM := runD 1 (m_is_number K)
abbrev N_is_below : List PySem.Str := ["value", "size"]
def m_is_below (K : PySem.W.Frag) : SM := (retS (andV (callM 1 (F_is_number K) (consA (varM 0) nilA)) (chainM leD ltA (retM (.int 0)) (varM 0) (varM 1))))
def F_is_below (K : PySem.W.Frag) : FM := runD 2 (m_is_below K)
abbrev N_is_door : List PySem.Str := ["value", "rooms", "near", "first", "far", "second", "item"]
def m_is_door (K : PySem.W.Frag) : SM := (seqS (ifS (orM (notM (boolM (appM (isiD K) (consA (varM 0) (consA (retM (.ty "tuple")) nilA))))) (boolM (binM neD (appM lenD (consA (varM 0) nilA)) (retM (.int 4))))) (retS (retM (.bl false))) skipS)
  (seqS (asgS (tgT 4 (tgCons (tgN 2) (tgCons (tgN 3) (tgCons (tgN 4) (tgCons (tgN 5) tgNil))))) (varM 0))
  (seqS (ifS (orM (notM (boolM (callM 2 (F_is_below K) (consA (varM 2) (consA (varM 1) nilA))))) (notM (boolM (callM 2 (F_is_below K) (consA (varM 4) (consA (varM 1) nilA)))))) (retS (retM (.bl false))) skipS)
  (retS (appM allD (consA (lstV (lcM (List.map Prod.snd ([("item", 6)] : List (PySem.Str × Nat))) (seqM (tupM (consA (varM 3) (consA (varM 5) nilA)))) (tgN 6) (retM true) (andV (callM 1 (F_is_number K) (consA (varM 6) nilA)) (andV (binM neD (varM 6) (retM (.int 0))) (chainM leD leD (negM (retM (.int 999))) (varM 6) (retM (.int 999))))))) nilA))))))
def F_is_door (K : PySem.W.Frag) : FM := runD 7 (m_is_door K)
abbrev N_are_doors : List PySem.Str := ["value", "rooms", "door"]
def m_are_doors (K : PySem.W.Frag) : SM := (seqS (ifS (orM (notM (boolM (appM (isiD K) (consA (varM 0) (consA (retM (.ty "tuple")) nilA))))) (boolM (binM gtD (appM lenD (consA (varM 0) nilA)) (retM (.int 20))))) (retS (retM (.bl false))) skipS)
  (retS (appM allD (consA (lstV (lcM (List.map Prod.snd ([("door", 2)] : List (PySem.Str × Nat))) (seqM (varM 0)) (tgN 2) (retM true) (callM 2 (F_is_door K) (consA (varM 2) (consA (varM 1) nilA))))) nilA))))
def F_are_doors (K : PySem.W.Frag) : FM := runD 3 (m_are_doors K)
abbrev N_joined_rooms : List PySem.Str := ["doors", "known", "line", "here", "near", "first", "far", "second", "one", "other"]
def m_joined_rooms (K : PySem.W.Frag) : SM := (seqS (parS [1, 2] (consR .k (newK [(.inl 0, .bl true)]) (consR .l (lstM (consA (retM (.int 0)) nilA)) nilR)))
  (seqS (whileS (boolM (cmpP neD 2 (lstV (lstM nilA)))) (seqS (setS 3 (popM 2))
  (forM' (seqM (varM 0)) (tgT 4 (tgCons (tgN 4) (tgCons (tgN 5) (tgCons (tgN 6) (tgCons (tgN 7) tgNil))))) (forM' (seqM (tupM (consA (tupM (consA (varM 4) (consA (varM 6) nilA))) (consA (tupM (consA (varM 6) (consA (varM 4) nilA))) nilA)))) (tgT 2 (tgCons (tgN 8) (tgCons (tgN 9) tgNil))) (ifS (andM (boolM (binM eqD (varM 8) (varM 3))) (boolM (dinP true 1 (varM 9)))) (seqS (dputM 1 (varM 9) (retM (.bl true)))
  (exprS (apM 2 (varM 9)))) skipS)))) FUEL)
  (retS (varM 1))))
def F_joined_rooms (K : PySem.W.Frag) : FM := runD 10 (m_joined_rooms K)
abbrev N_need_house : List PySem.Str := ["house"]
def m_need_house (K : PySem.W.Frag) : SM := (ifS (notM (boolM (appM (isiD K) (consA (varM 0) (consA (retM (.glob "House")) nilA))))) (raiseS "BadHouse") skipS)
def F_need_house (K : PySem.W.Frag) : FM := runD 1 (m_need_house K)
abbrev N__law_blended : List PySem.Str := ["state", "turn", "found", "prime", "blend", "cell"]
def m__law_blended (K : PySem.W.Frag) : SM := (seqS (parS [1, 2] (consR .v (binM addD (stGetM .turn (varM 0)) (retM (.int 1))) (consR .v (retM (.int 0)) nilR)))
  (seqS (stPutM .turn (varM 0) (varM 1))
  (seqS (forM' (seqM (lstV (lstM (consA (retM (.int 2147480941)) (consA (retM (.int 2147480927)) (consA (retM (.int 2147480989)) nilA)))))) (tgN 3) (seqS (setS 4 (binM addD (binM mulD (retM (.int 51131)) (varM 1)) (binM divD (varM 3) (retM (.int 89)))))
  (seqS (forM' (seqM (stGetM .cells (varM 0))) (tgN 5) (setS 4 (binM modD (appM intD (consA (binM addD (binM addD (binM mulD (varM 4) (retM (.int 65543))) (varM 5)) (varM 1)) nilA)) (varM 3))))
  (setS 2 (binM addD (binM mulD (varM 2) (retM (.int 2147483647))) (binM modD (appM intD (consA (binM powD (varM 4) (retM (.int 5))) nilA)) (varM 3)))))))
  (retS (varM 2)))))
def F__law_blended (K : PySem.W.Frag) : FM := runD 6 (m__law_blended K)
abbrev N__law_draw : List PySem.Str := ["state", "size_here", "found"]
def m__law_draw (K : PySem.W.Frag) : SM := (seqS (ifS (boolM (binM eqD (stGetM .left (varM 0)) (retM (.int 0)))) (stPutM .left (varM 0) (ifM (greatNeM (stGetM .great (varM 0)) (lstV (lstM nilA))) (popGreatM (stGetM .great (varM 0)) (retM (.int 0))) (callM 1 (F__law_blended K) (consA (varM 0) nilA)))) skipS)
  (seqS (setS 2 (binM modD (appM intD (consA (stGetM .left (varM 0)) nilA)) (varM 1)))
  (seqS (stPutM .left (varM 0) (binM divD (stGetM .left (varM 0)) (varM 1)))
  (retS (varM 2)))))
def F__law_draw (K : PySem.W.Frag) : FM := runD 3 (m__law_draw K)
abbrev N__law_pick : List PySem.Str := ["state", "several"]
def m__law_pick (K : PySem.W.Frag) : SM := (retS (ixP 1 (callM 2 (F__law_draw K) (consA (varM 0) (consA (lenP 1) nilA)))))
def F__law_pick (K : PySem.W.Frag) : FM := runD 2 (m__law_pick K)
def FB__law_pick (K : PySem.W.Frag) : FM := fun ds S => match splitL ds with
  | some (ds, es) => runB 2 (m__law_pick K) ds es S
  | none => .stuck
abbrev N__law_mixed : List PySem.Str := ["state", "several", "left", "found"]
def m__law_mixed (K : PySem.W.Frag) : SM := (seqS (parS [2, 3] (consR .l (appL listD (consA (varM 1) nilA)) (consR .l (lstM nilA) nilR)))
  (seqS (whileS (boolM (cmpP neD 2 (lstV (lstM nilA)))) (exprS (apM 3 (popAtM 2 (callM 2 (F__law_draw K) (consA (varM 0) (consA (lenP 2) nilA)))))) FUEL)
  (retS (varM 3))))
def F__law_mixed (K : PySem.W.Frag) : FM := runD 4 (m__law_mixed K)
abbrev N__law_odd : List PySem.Str := ["state"]
def m__law_odd (K : PySem.W.Frag) : SM := (retS (callM 2 (F__law_pick K) (consA (varM 0) (consA (lstV (lstM (consA (retM .non) (consA (retM (.int 0)) (consA (negM (retM (.int 1))) (consA (retM (.bl true)) (consA (retM (.str "1")) (consA (retM (.str "")) (consA (tupM nilA) (consA (lstV (lstM nilA)) (consA (dicV (newK [])) (consA (tupM (consA (retM (.int 1)) nilA)) (consA (tupM (consA (tupM (consA (retM (.int 0)) nilA)) nilA)) (consA (tupM (consA (retM (.str "a")) nilA)) (consA (tupM (consA (retM (.str "a")) (consA (retM (.str "a")) nilA))) (consA (binM powD (retM (.int 10)) (retM (.int 18))) nilA)))))))))))))))) nilA))))
def F__law_odd (K : PySem.W.Frag) : FM := runD 1 (m__law_odd K)
abbrev N__law_rc_number : List PySem.Str := ["state"]
def m__law_rc_number (K : PySem.W.Frag) : SM := (retS (callM 2 (F__law_pick K) (consA (varM 0) (consA (lstV (lstM (consA (retM (.int 1)) (consA (retM (.int 2)) (consA (retM (.int 3)) (consA (retM (.int 1)) (consA (retM (.int 2)) (consA (retM (.int 4)) (consA (retM (.int 6)) (consA (negM (retM (.int 1))) (consA (negM (retM (.int 2))) (consA (negM (retM (.int 3))) (consA (retM (.int 5)) (consA (retM (.int 12)) nilA)))))))))))))) nilA))))
@[irreducible] def F__law_rc_number (K : PySem.W.Frag) : FM := runD 1 (m__law_rc_number K)
abbrev N__law_rc_doors : List PySem.Str := ["state", "rooms", "more", "doors", "room", "near", "first", "second", "lap", "same"]
def m__law_rc_doors (K : PySem.W.Frag) : SM := (seqS (setLS 3 (lstM nilA))
  (seqS (forM' (range2M (consA (retM (.int 1)) (consA (varM 1) nilA))) (tgN 4) (seqS (setS 5 (callM 2 (F__law_draw K) (consA (varM 0) (consA (varM 4) nilA))))
  (seqS (parS [6, 7] (consR .v (callM 1 (F__law_rc_number K) (consA (varM 0) nilA)) (consR .v (callM 1 (F__law_rc_number K) (consA (varM 0) nilA)) nilR)))
  (exprS (apM 3 (ifM (boolM (binM eqD (callM 2 (F__law_draw K) (consA (varM 0) (consA (retM (.int 2)) nilA))) (retM (.int 0)))) (tupM (consA (varM 5) (consA (varM 6) (consA (varM 4) (consA (varM 7) nilA))))) (tupM (consA (varM 4) (consA (varM 7) (consA (varM 5) (consA (varM 6) nilA)))))))))))
  (seqS (forM' (range1M (consA (callM 2 (F__law_draw K) (consA (varM 0) (consA (binM addD (varM 2) (retM (.int 1))) nilA))) nilA)) (tgN 8) (seqS (setS 9 (andV (cmpP neD 3 (lstV (lstM nilA))) (binM eqD (callM 2 (F__law_draw K) (consA (varM 0) (consA (retM (.int 6)) nilA))) (retM (.int 0)))))
  (exprS (apM 3 (ifM (boolM (varM 9)) (callB 2 (FB__law_pick K) (consB (varM 0) (lastB 3))) (tupM (consA (callM 2 (F__law_draw K) (consA (varM 0) (consA (varM 1) nilA))) (consA (callM 1 (F__law_rc_number K) (consA (varM 0) nilA)) (consA (callM 2 (F__law_draw K) (consA (varM 0) (consA (varM 1) nilA))) (consA (callM 1 (F__law_rc_number K) (consA (varM 0) nilA)) nilA))))))))))
  (retS (appM tupleD (consA (callM 2 (F__law_mixed K) (consA (varM 0) (consA (varM 3) nilA))) nilA))))))
@[irreducible] def F__law_rc_doors (K : PySem.W.Frag) : FM := runD 10 (m__law_rc_doors K)
abbrev N__law_rc_told : List PySem.Str := ["state", "rooms"]
def m__law_rc_told (K : PySem.W.Frag) : SM := (seqS (setS 1 (callM 2 (F__law_pick K) (consA (varM 0) (consA (lstV (lstM (consA (retM (.int 1)) (consA (retM (.int 1)) (consA (retM (.int 2)) (consA (retM (.int 3)) (consA (retM (.int 2)) nilA))))))) nilA))))
  (retS (tupM (consA (varM 1) (consA (callM 3 (F__law_rc_doors K) (consA (varM 0) (consA (varM 1) (consA (ifM (boolM (binM gtD (varM 1) (retM (.int 1)))) (retM (.int 3)) (retM (.int 2))) nilA)))) nilA)))))
@[irreducible] def F__law_rc_told (K : PySem.W.Frag) : FM := runD 2 (m__law_rc_told K)
abbrev N__law_rc_word : List PySem.Str := ["error", "kinds", "name", "kind"]
def m__law_rc_word (K : PySem.W.Frag) : SM := (seqS (ifS (boolM (binM isD (varM 0) (retM .non))) (retS (retM (.str ""))) skipS)
  (seqS (setS 1 (lstV (lstM (consA (tupM (consA (retM (.str "house")) (consA (appM (isiD K) (consA (varM 0) (consA (retM (.glob "BadHouse")) nilA))) nilA))) (consA (tupM (consA (retM (.str "room")) (consA (appM (isiD K) (consA (varM 0) (consA (retM (.glob "BadRoom")) nilA))) nilA))) (consA (tupM (consA (retM (.str "walk")) (consA (appM (isiD K) (consA (varM 0) (consA (retM (.glob "BadWalk")) nilA))) nilA))) (consA (tupM (consA (retM (.str "home")) (consA (appM (isiD K) (consA (varM 0) (consA (retM (.glob "NotHome")) nilA))) nilA))) nilA)))))))
  (seqS (setS 1 (binM addD (varM 1) (lstV (lstM (consA (tupM (consA (retM (.str "elsewhere")) (consA (appM (isiD K) (consA (varM 0) (consA (retM (.glob "Elsewhere")) nilA))) nilA))) (consA (tupM (consA (retM (.str "spot")) (consA (appM (isiD K) (consA (varM 0) (consA (retM (.glob "BadSpot")) nilA))) nilA))) (consA (tupM (consA (retM (.str "times")) (consA (appM (isiD K) (consA (varM 0) (consA (retM (.glob "BadTimes")) nilA))) nilA))) nilA)))))))
  (seqS (setS 1 (binM addD (varM 1) (lstV (lstM (consA (tupM (consA (retM (.str "move")) (consA (appM (isiD K) (consA (varM 0) (consA (retM (.glob "BadMove")) nilA))) nilA))) (consA (tupM (consA (retM (.str "state")) (consA (appM (isiD K) (consA (varM 0) (consA (retM (.glob "BadState")) nilA))) nilA))) (consA (tupM (consA (retM (.str "pass")) (consA (appM (isiD K) (consA (varM 0) (consA (retM (.glob "BadPass")) nilA))) nilA))) (consA (tupM (consA (retM (.str "many")) (consA (appM (isiD K) (consA (varM 0) (consA (retM (.glob "TooMany")) nilA))) nilA))) nilA))))))))
  (seqS (forM' (seqM (varM 1)) (tgT 2 (tgCons (tgN 2) (tgCons (tgN 3) tgNil))) (ifS (boolM (varM 3)) (retS (varM 2)) skipS))
  (retS (retM (.str "other"))))))))
@[irreducible] def F__law_rc_word (K : PySem.W.Frag) : FM := runD 4 (m__law_rc_word K)
abbrev N_House : List PySem.Str := ["self", "rooms", "doors", "known", "room"]
def m_House (K : PySem.W.Frag) : SM := (seqS (ifS (orM (notM (boolM (callM 1 (F_is_number K) (consA (varM 1) nilA)))) (notM (boolM (chainM leD leD (retM (.int 1)) (varM 1) (retM (.int 12)))))) (raiseS "BadRooms") skipS)
  (seqS (ifS (notM (boolM (callM 2 (F_are_doors K) (consA (varM 2) (consA (varM 1) nilA))))) (raiseS "BadDoors") skipS)
  (seqS (setS 3 (callM 1 (F_joined_rooms K) (consA (varM 2) nilA)))
  (seqS (forM' (range1M (consA (varM 1) nilA)) (tgN 4) (ifS (boolM (dinP true 3 (varM 4))) stuckS skipS))
  (seqS (fputM 0 "House" "rooms" (varM 1))
  (fputM 0 "House" "doors" (varM 2)))))))
def F_House (K : PySem.W.Frag) : FI := runI "House" 5 (m_House K)
end PR
set_option maxRecDepth 100000
set_option maxHeartbeats 1000000
namespace PR
open PySem PySem.Spec L2 DS
def LIM : Int := 10 ^ 12
/-- the draws' source, with k draws to spare; T: the tables -/
structure St (T : List (Addr × PySem.Str)) (k : Nat) (S : DrawSt) : Prop where
  left : 0 ≤ S.left
  turn : 0 ≤ S.turn
  great : ∀ g ∈ S.great, 0 ≤ g
  cells : ∀ c ∈ S.cells, 0 ≤ c
  lim : S.turn + k ≤ LIM
  tab : S.T = T
theorem St.mono {T : List (Addr × PySem.Str)} {j k : Nat} {S : DrawSt} (h : St T k S) (hj : j ≤ k) : St T j S := ⟨h.left, h.turn, h.great, h.cells, by have := h.lim; omega, h.tab⟩
section
variable {K : PySem.W.Frag} {T : List (Addr × PySem.Str)}
@[simp] theorem intD_int (i : Int) : intD [.int i] = some (.int i) := rfl
theorem cells_loop {Q : Fl → G → Prop} {S : DrawSt} {a c : Slot} {turn prime : Int} (hp : 0 < prime) (hQ : ∀ b e, (0 ≤ b) → b < 2 ^ 63 → Q .nx ⟨[a, .val (.int turn), c, .val (.int prime), .val (.int b), e], S⟩) (hp2 : prime < 2 ^ 40) :
    ∀ (cs : List Int) {b : Int} {e : Slot}, 0 ≤ b → b < 2 ^ 63 →
    wp (forS (tgN 5) (setS 4 (binM modD (appM intD (consA (binM addD (binM addD (binM mulD (varM 4) (retM (.int 65543))) (varM 5)) (varM 1)) nilA)) (varM 3))) (cs.map D.int) ⟨[a, .val (.int turn), c, .val (.int prime), .val (.int b), e], S⟩) Q
  | [], b, e, h0, h1 => by simpa using hQ b e h0 h1
  | n :: cs, b, e, h0, h1 => by
    have m : mulD (.int b) (.int 65543) = some (.int (b * 65543)) := mulD_smallR (by decide)
    have md : ∀ i, modD (.int i) (.int prime) = some (.int (i.fmod prime)) := fun i => modD_int (by omega)
    have ih := fun b e h0 h1 => cells_loop (a := a) (c := c) (turn := turn) (S := S) hp hQ hp2 cs (b := b) (e := e) h0 h1
    simp [m, md]
    refine ih _ _ (Int.fmod_nonneg_of_pos _ hp) ?_
    have := Int.fmod_lt_of_pos (b * 65543 + n + turn) hp
    omega
theorem prime_loop {Q : Fl → G → Prop} {S : DrawSt} {turn : Int} (ht : 0 ≤ turn) (hl : turn ≤ LIM) (hQ : ∀ f d e g, 0 ≤ f → Q .nx ⟨[.val .st, .val (.int turn), .val (.int f), d, e, g], S⟩) :
    ∀ (ps : List Int) {f : Int} {d e g : Slot}, 0 ≤ f → (∀ p ∈ ps, 2147480000 < p ∧ p < 2147490000) →
    wp (forS (tgN 3) (seqS (setS 4 (binM addD (binM mulD (retM (.int 51131)) (varM 1)) (binM divD (varM 3) (retM (.int 89)))))
      (seqS (forM' (seqM (stGetM .cells (varM 0))) (tgN 5) (setS 4 (binM modD (appM intD (consA (binM addD (binM addD (binM mulD (varM 4) (retM (.int 65543))) (varM 5)) (varM 1)) nilA)) (varM 3))))
      (setS 2 (binM addD (binM mulD (varM 2) (retM (.int 2147483647))) (binM modD (appM intD (consA (binM powD (varM 4) (retM (.int 5))) nilA)) (varM 3)))))) (ps.map D.int) ⟨[.val .st, .val (.int turn), .val (.int f), d, e, g], S⟩) Q
  | [], f, d, e, g, h, _ => by simpa using hQ f d e g h
  | p :: ps, f, d, e, g, h, hp => by
    obtain ⟨p0, p1⟩ := hp p List.mem_cons_self
    have m1 : mulD (.int 51131) (.int turn) = some (.int (51131 * turn)) := mulD_small (by decide)
    have dv : divD (.int p) (.int 89) = some (.int (p.fdiv 89)) := divD_int (by decide) (by decide)
    have ih := fun f d e g h => prime_loop (S := S) (Q := Q) ht hl hQ ps (f := f) (d := d) (e := e) (g := g) h (fun q hq => hp q (List.mem_cons_of_mem _ hq))
    have q0 : 0 ≤ p.fdiv 89 := Int.fdiv_nonneg (by omega) (by decide)
    have q1 : p.fdiv 89 ≤ p := by
      rw [Int.fdiv_eq_ediv_of_nonneg _ (by decide)]
      omega
    simp [m1, dv]
    refine ⟨_, Or.inl rfl, ?_⟩
    refine cells_loop (by omega) (fun b e b0 b1 => ?_) (by omega) S.cells (by unfold LIM at hl; omega) (by unfold LIM at hl; omega)
    have m2 : mulD (.int f) (.int 2147483647) = some (.int (f * 2147483647)) := mulD_smallR (by decide)
    have pw : powD (.int b) (.int 5) = some (.int (b ^ 5)) := by
      unfold powD intOp pow_ok
      simp
      omega
    have md : ∀ i, modD (.int i) (.int p) = some (.int (i.fmod p)) := fun i => modD_int (by omega)
    simp [m2, pw, md]
    refine ih _ _ _ _ ?_
    have := Int.fmod_nonneg_of_pos (b ^ 5) (show 0 < p by omega)
    have := Int.mul_nonneg h (show (0 : Int) ≤ 2147483647 by decide)
    omega
theorem blended_ok {k : Nat} {S : DrawSt} (h : St T (k + 1) S) {R : D → DrawSt → Prop} (hR : ∀ f S', 0 ≤ f → St T k S' → S'.left = S.left → S'.great = S.great → R (.int f) S') : FOk (F__law_blended K [.st] S) R := by
  unfold F__law_blended m__law_blended
  have hl := h.lim
  have ht := h.turn
  simp [env0, stGetD, stPutD, -wp_for_cons]
  refine prime_loop (turn := S.turn + 1) (by omega) (by omega) (fun f d e g hf => ?_) [2147480941, 2147480927, 2147480989] (Int.le_refl 0) (by decide)
  simp
  exact hR f _ hf ⟨h.left, by show 0 ≤ S.turn + 1; omega, h.great, h.cells, by show S.turn + 1 + k ≤ LIM; omega, h.tab⟩ rfl rfl
theorem ints_ne (l : List Int) : neD (.lst (l.map D.int)) (.lst []) = some (.bl (!l.isEmpty)) := by
  have : ∀ l : List Int, sdsB 0 (l.map D.int) = true := by
    intro l
    induction l with
    | nil => rfl
    | cons a l ih => show (true && sdsB 0 (l.map D.int)) = true; rw [ih]; rfl
  rw [(sd_ne (n := 1) (m := 1) (show sdB 1 (.lst (l.map D.int)) = true from this l) rfl).1]
  cases l <;> rfl
theorem draw_ok {k : Nat} {S : DrawSt} {n : Int} (h : St T (k + 1) S) (n0 : 1 ≤ n) (n1 : n < 1073741824) {R : D → DrawSt → Prop} (hR : ∀ i S', 0 ≤ i → i < n → St T k S' → R (.int i) S') : FOk (F__law_draw K [.st, .int n] S) R := by
  unfold F__law_draw m__law_draw
  have md : ∀ i, modD (.int i) (.int n) = some (.int (i.fmod n)) := fun i => modD_int (by omega)
  have dv : ∀ i, divD (.int i) (.int n) = some (.int (i.fdiv n)) := fun i => divD_int (by omega) (by omega)
  have fin : ∀ (S' : DrawSt) (l : Int), 0 ≤ l → St T k S' → R (.int (l.fmod n)) { S' with left := l.fdiv n } := fun S' l hl hs =>
    hR _ _ (Int.fmod_nonneg_of_pos _ (by omega)) (Int.fmod_lt_of_pos _ (by omega)) ⟨Int.fdiv_nonneg hl (by omega), hs.turn, hs.great, hs.cells, hs.lim, hs.tab⟩
  simp [env0, stGetD, stPutD, md, dv, ints_ne]
  by_cases hl : S.left = 0
  · simp [hl]
    cases hg : S.great with
    | nil =>
      simp
      refine blended_ok h fun f S' hf hs _ _ => ?_
      simp
      exact fin S' f hf hs
    | cons g r =>
      simp
      have hs := h.mono (Nat.le_succ k)
      refine fin { S with great := r } g (h.great g (by rw [hg]; exact List.mem_cons_self)) ⟨hs.left, hs.turn, fun x hx => hs.great x (by rw [hg]; exact List.mem_cons_of_mem _ hx), hs.cells, hs.lim, hs.tab⟩
  · simp [hl]
    exact fin S S.left h.left (h.mono (Nat.le_succ k))
theorem atI_mem {ds : List D} {i : Int} (h0 : 0 ≤ i) (h1 : i < ds.length) : ∃ d, atI ds i = some d ∧ d ∈ ds := by
  have hl : i.toNat < ds.length := by omega
  refine ⟨ds[i.toNat], ?_, List.getElem_mem hl⟩
  unfold atI ixN
  rw [if_pos h0, if_pos h1]
  show ds[i.toNat]? = _
  simp [hl]
theorem pick_ok {k : Nat} {S : DrawSt} {ds : List D} (h : St T (k + 1) S) (n0 : ds ≠ []) (n1 : ds.length < 1073741824) {R : D → DrawSt → Prop} (hR : ∀ d S', d ∈ ds → St T k S' → R d S') : FOk (F__law_pick K [.st, .lst ds] S) R := by
  unfold F__law_pick m__law_pick
  have hl : 0 < ds.length := List.length_pos_iff.mpr n0
  simp [env0]
  refine draw_ok h (by omega) (by omega) fun i S' i0 i1 hs => ?_
  obtain ⟨d, e, hm⟩ := atI_mem i0 i1
  simp [e]
  exact hR d S' hm hs
theorem pickB_ok {k : Nat} {S : DrawSt} {ds : List D} (h : St T (k + 1) S) (n0 : ds ≠ []) (n1 : ds.length < 1073741824) {R : D → DrawSt → Prop} (hR : ∀ d S', d ∈ ds → St T k S' → R d S') : FOk (FB__law_pick K [.st, .lst ds] S) R := by
  have e : FB__law_pick K [.st, .lst ds] S = runB 2 (m__law_pick K) [.st] ds S := rfl
  rw [e]
  have hl : 0 < ds.length := List.length_pos_iff.mpr n0
  have run : FOk (runB 2 (m__law_pick K) [.st] ds S) R = wp (m__law_pick K ⟨envB 2 [.st] ds, S⟩) fun fl Γ => match fl with
    | .ret d => R d Γ.ds
    | .nx => R .non Γ.ds
    | _ => False := by
    unfold runB
    cases h : m__law_pick K ⟨envB 2 [.st] ds, S⟩ with
    | ok a Γ => cases a <;> rfl
    | exc n S => rfl
    | stuck => rfl
  rw [run]
  unfold m__law_pick
  simp [envB]
  refine draw_ok h (by omega) (by omega) fun i S' i0 i1 hs => ?_
  obtain ⟨d, e, hm⟩ := atI_mem i0 i1
  simp [e]
  exact hR d S' hm hs
end
end PR
set_option maxRecDepth 100000
set_option maxHeartbeats 1000000
namespace PR
open PySem PySem.Spec L2 DS
section
variable {K : PySem.W.Frag} {T : List (Addr × PySem.Str)}
theorem sdsB_all {n : Nat} : ∀ {xs : List D}, sdsB n xs = true ↔ ∀ x ∈ xs, sdB n x = true
  | [] => by simp [sdsB]
  | x :: xs => by
    show (sdB n x && sdsB n xs) = true ↔ _
    rw [Bool.and_eq_true, sdsB_all]
    simp
theorem lst_ne {n : Nat} {ds : List D} (h : sdsB n ds = true) (hn : n + 1 ≤ 64) : neD (.lst ds) (.lst []) = some (.bl (!ds.isEmpty)) := by
  rw [(sd_ne (n := n + 1) (m := 1) (show sdB (n + 1) (.lst ds) = true from h) rfl hn).1]
  cases ds <;> rfl
theorem perm_erase : ∀ {ds : List D} {i : Nat} {d : D}, ds[i]? = some d → (d :: ds.eraseIdx i).Perm ds
  | [], _, _, h => by simp at h
  | x :: xs, 0, d, h => by simp at h; subst h; exact List.Perm.refl _
  | x :: xs, i + 1, d, h => by
    have := perm_erase (ds := xs) (i := i) (d := d) (by simpa using h)
    show (d :: x :: xs.eraseIdx i).Perm (x :: xs)
    exact (List.Perm.swap x d _).trans (this.cons x)
theorem mixed_ok {k : Nat} {S : DrawSt} {ds : List D} {n : Nat} (h : St T (k + ds.length) S) (n1 : ds.length < 1000000) (hs : sdsB n ds = true) (hn : n + 1 ≤ 64) {R : D → DrawSt → Prop} (hR : ∀ ds' S', ds'.Perm ds → St T k S' → R (.lst ds') S') : FOk (F__law_mixed K [.st, .lst ds] S) R := by
  unfold F__law_mixed m__law_mixed
  simp [env0, listD]
  refine wp_while (fun m Γ => ∃ left found S', m = left.length ∧ Γ = ⟨[.val .st, .val (.lst ds), .own left, .own found], S'⟩ ∧ (left ++ found).Perm ds ∧ St T (k + left.length) S') FUEL ds.length (by unfold FUEL; omega) ⟨ds, [], S, rfl, rfl, by simp, h⟩ ?_
  rintro m Γ ⟨left, found, S', rfl, rfl, hp, hst⟩
  have hsl : sdsB n left = true := by
    rw [sdsB_all] at hs ⊢
    intro x hx
    exact hs x (hp.subset (List.mem_append_left _ hx))
  have hlen := hp.length_eq
  rw [List.length_append] at hlen
  cases left with
  | nil =>
    have e0 := lst_ne (ds := []) (n := n) rfl hn
    simp [e0]
    exact hR _ _ (by simpa using hp) (by simpa using hst)
  | cons x left =>
    have e0 := lst_ne hsl hn
    simp only [List.isEmpty_cons] at e0
    simp [e0]
    rw [List.length_cons] at hst hlen
    refine draw_ok (T := T) (k := k + left.length) hst (by omega) (by omega) fun i S2 i0 i1 h2 => ?_
    have hi : i.toNat < (x :: left).length := by rw [List.length_cons]; omega
    have eg : (x :: left)[i.toNat]? = some ((x :: left)[i.toNat]) := by simp [hi]
    have pe := perm_erase eg
    have le : ((x :: left).eraseIdx i.toNat).length = left.length := by
      rw [List.length_eraseIdx, if_pos hi, List.length_cons]; omega
    simp [eg]
    refine ⟨⟨i0, by omega⟩, by omega, left.length, by omega, _, le.symm, _, _, ⟨⟨rfl, rfl⟩, rfl⟩, ?_, by rw [le]; exact h2⟩
    refine List.Perm.trans ?_ hp
    refine List.Perm.trans ?_ (pe.append_right found)
    rw [List.cons_append, ← List.append_assoc]
    exact (List.perm_append_singleton _ _)
end
end PR
set_option maxRecDepth 100000
set_option maxHeartbeats 4000000
namespace DS
open PySem PySem.Spec L2
def absI (n : Int) : Int := if n < 0 then -n else n
def bigI : Int := 10 ^ 18
def greatOf : List Int → List Int
  | [] => []
  | n :: r => if bigI ≤ absI n then (absI n - bigI) :: greatOf r else greatOf r
def cellsOf (ns : List Int) : List Int := ns.map absI
/-- abs(x) -/
def tAb (i : Nat) : TE := fun σ H Q => ∃ n : Int, σ[i]? = some (some (.int n)) ∧ Q (.int (absI n)) H
def tBig : TE := fun _ H Q => Q (.int bigI) H
section
variable {X : Cx} {x : Str} {px p pos : Pos}
theorem pe_ab (i : Nat) (hg : Gl X "abs") (hm : X.mg "abs" = none) (hN : X.N[i]? = some x := by rfl) (hv : Vis X.env.scope x := by first | exact Or.inl rfl | exact Or.inr (Or.inl rfl) | exact Or.inr (Or.inr rfl)) (hd : (x == ("__debug__" : Str)) = false := by decide) (hcd : (x == ("__classdict__" : Str)) = false := by decide) :
    PE X (.Call (.Name "abs" p) [.Name x px] [] pos) (tAb i) :=
  PE_imp (pe_callB (id := "abs") call_abs hg hm (by decide +kernel) (pa_cons (pe_var hN hv hd hcd) pa_nil)) fun σ H Q ⟨n, e, q⟩ => ⟨_, e, n, rfl, q⟩
theorem pe_big {j1 j2 : Nat} {p1 p2 : Pos} : PE X (.BinOp (.Constant (.int 10) j1 p1) .Pow (.Constant (.int 18) j2 p2) pos) tBig :=
  PE_imp (pe_op op_pow pe_int pe_int) fun σ H Q q => ⟨10, 18, rfl, rfl, ⟨by decide, by decide, by decide⟩, q⟩
end
def tG : TE := fun σ H Q => ∃ n : Int, σ[2]? = some (some (.int n)) ∧ Q (.int (absI n - bigI)) H
def tGt : TT := fun σ H Q => ∃ n : Int, σ[2]? = some (some (.int n)) ∧ Q (decide (bigI ≤ absI n)) H
section
variable {X : Cx} {a b : Expr} {pos : Pos}
theorem pe_G (ha : PE X a (tAb 2)) (hb : PE X b tBig) : PE X (.BinOp a .Sub b pos) tG := PE_imp (pe_op op_sub ha hb) fun σ H Q ⟨n, e, q⟩ => ⟨n, e, _, _, rfl, rfl, q⟩
theorem pt_G (ha : PE X a (tAb 2)) (hb : PE X b tBig) : PT X (.Compare a [.GtE] [b] pos) tGt := PT_imp (pt_cmpR op_ge ha hb (nomark _)) fun σ H Q ⟨n, e, q⟩ => ⟨n, e, _, _, rfl, rfl, _, rfl, q⟩
end
theorem greatOf_take : ∀ (ns : List Int) (i : Nat) (n : Int), ns[i]? = some n → greatOf (ns.take (i + 1)) = greatOf (ns.take i) ++ (if bigI ≤ absI n then [absI n - bigI] else [])
  | [], i, n, h => by simp at h
  | m :: r, 0, n, h => by
    simp at h; subst h
    simp [greatOf]
  | m :: r, i + 1, n, h => by
    have := greatOf_take r i n (by simpa using h)
    rw [List.take_succ_cons, List.take_succ_cons]
    unfold greatOf
    rw [this]
    split <;> rfl
theorem greatOf_len : ∀ ns : List Int, (greatOf ns).length ≤ ns.length
  | [] => Nat.le_refl _
  | n :: r => by
    unfold greatOf
    have := greatOf_len r
    split
    · rw [List.length_cons, List.length_cons]; omega
    · rw [List.length_cons]; omega
section
variable {K : PySem.W.Frag} {a : Addr} {ns : List Int} {σ : St} {H : Hp} {Q : VK}
theorem map_get {ns : List Int} {i : Nat} {x : V} (h : (ns.map V.int)[i]? = some x) : ∃ n, ns[i]? = some n ∧ x = .int n := by
  rw [List.getElem?_map] at h
  cases e : ns[i]? with
  | none => rw [e] at h; cases h
  | some n => rw [e] at h; cases h; exact ⟨n, rfl, rfl⟩
theorem wipe_set2 {σ : St} {v : V} (hl : 2 < σ.length) : wipe (((wipe σ [2]).set 2 (some v))) [2] = wipe σ [2] := by
  show ((σ.set 2 none).set 2 (some v)).set 2 none = σ.set 2 none
  rw [List.set_set, List.set_set]
/-- the first block -/
theorem lc_great (hl : 2 < σ.length) (hn : ns.length ≤ 16777216) (hs : SqL K H a (ns.map V.int)) (q : ∀ D, H D = none → Q (.ref D) (upd H D (.lst ((greatOf ns).map V.int)))) :
    ∀ D, H D = none → ∃ W : Nat → Nat → Hp → Prop, (∃ m, W 0 m (upd H D (.lst []))) ∧ ∀ i m H', W i m H' →
      ((Itl K a).stop i H' ∧ Q (.ref D) H') ∨ ((Itl K a).go i H' ∧ ∃ Nx : Hp → Prop, (∀ H', Nx H' → ∃ m', m' < m ∧ W (i + 1) m' H') ∧ ∀ x H2, (Itl K a).yld i H' x H2 → gName 2 x (wipe σ [2]) H2 fun σ2 H3 => wipe σ2 [2] = wipe σ [2] ∧ tGt σ2 H3 fun b H4 =>
        if b = true then tG σ2 H4 fun y H5 => ∃ acc, H5 D = some (.lst acc) ∧ acc.length < sizeLine ∧ Nx (upd H5 D (.lst (acc ++ [y]))) else Nx H4) := by
  intro D hD
  refine lc_list (xs := ns.map V.int) (fun i H' => H' = upd H D (.lst ((greatOf (ns.take i)).map V.int))) (by rfl) (fun i H' _ e => ?_) (fun i x H' hx e => ?_) fun H' e => ?_
  · subst e
    rcases hs with (h | ⟨o, h⟩) | h
    · exact .inl (.inl (by rw [upd_ne (ne_of_none h hD)]; exact h))
    · exact .inl (.inr ⟨o, by rw [upd_ne (ne_of_none h hD)]; exact h⟩)
    · exact .inr h
  · subst e
    obtain ⟨n, hn', rfl⟩ := map_get hx
    have h2 : (((wipe σ [2]).set 2 (some (V.int n))))[2]? = some (some (.int n)) := by
      rw [List.getElem?_set_self (by rw [wipe_length]; exact hl)]
    refine ⟨wipe_set2 hl, n, h2, ?_⟩
    have et := greatOf_take ns i n hn'
    dsimp only
    by_cases hb : bigI ≤ absI n
    · rw [if_pos hb] at et
      rw [if_pos (decide_eq_true hb)]
      refine ⟨n, h2, _, upd_same, ?_, ?_⟩
      · rw [List.length_map, ← line_ok]
        have h1 := greatOf_len (ns.take i)
        have h2 : (ns.take i).length ≤ i := by rw [List.length_take]; omega
        have h3 : i < ns.length := (List.getElem?_eq_some_iff.mp hn').1
        omega
      · rw [upd_upd, et, List.map_append]; rfl
    · rw [if_neg hb, List.append_nil] at et
      rw [if_neg (by simpa using hb), et]
  · rw [e, List.length_map, List.take_length]; exact q D hD
theorem lc_cells (hl : 2 < σ.length) (hn : ns.length ≤ 16777216) (hs : SqL K H a (ns.map V.int)) (q : ∀ D, H D = none → Q (.ref D) (upd H D (.lst ((cellsOf ns).map V.int)))) :
    ∀ D, H D = none → ∃ W : Nat → Nat → Hp → Prop, (∃ m, W 0 m (upd H D (.lst []))) ∧ ∀ i m H', W i m H' →
      ((Itl K a).stop i H' ∧ Q (.ref D) H') ∨ ((Itl K a).go i H' ∧ ∃ Nx : Hp → Prop, (∀ H', Nx H' → ∃ m', m' < m ∧ W (i + 1) m' H') ∧ ∀ x H2, (Itl K a).yld i H' x H2 → gName 2 x (wipe σ [2]) H2 fun σ2 H3 => wipe σ2 [2] = wipe σ [2] ∧ (fun (σ : St) (H : Hp) (Q : Bool → Hp → Prop) => Q true H) σ2 H3 fun b H4 => if b = true then tAb 2 σ2 H4 fun y H5 => ∃ acc, H5 D = some (.lst acc) ∧ acc.length < sizeLine ∧ Nx (upd H5 D (.lst (acc ++ [y]))) else Nx H4) := by
  intro D hD
  refine lc_list (xs := ns.map V.int) (tt := fun σ H Q => Q true H) (fun i H' => H' = upd H D (.lst ((cellsOf (ns.take i)).map V.int))) (by rfl) (fun i H' _ e => ?_) (fun i x H' hx e => ?_) fun H' e => ?_
  · subst e
    rcases hs with (h | ⟨o, h⟩) | h
    · exact .inl (.inl (by rw [upd_ne (ne_of_none h hD)]; exact h))
    · exact .inl (.inr ⟨o, by rw [upd_ne (ne_of_none h hD)]; exact h⟩)
    · exact .inr h
  · subst e
    obtain ⟨n, hn', rfl⟩ := map_get hx
    have h2 : (((wipe σ [2]).set 2 (some (V.int n))))[2]? = some (some (.int n)) := by
      rw [List.getElem?_set_self (by rw [wipe_length]; exact hl)]
    have h3 : i < ns.length := (List.getElem?_eq_some_iff.mp hn').1
    have et : cellsOf (ns.take (i + 1)) = cellsOf (ns.take i) ++ [absI n] := by
      unfold cellsOf
      rw [List.take_add_one, hn', List.map_append]
      rfl
    refine ⟨wipe_set2 hl, ?_⟩
    dsimp only
    rw [if_pos rfl]
    refine ⟨n, h2, _, upd_same, ?_, ?_⟩
    · rw [List.length_map, ← line_ok]
      unfold cellsOf
      rw [List.length_map, List.length_take]
      omega
    · rw [upd_upd, et, List.map_append]; rfl
  · rw [e, List.length_map, List.take_length]; exact q D hD
end
/-- what _law_begun promises -/
def spBegun (K : PySem.W.Frag) : Sp := fun vs H Q E => ∃ (a : Addr) (ns : List Int), vs = [.ref a] ∧ SqL K H a (ns.map V.int) ∧ ns.length ≤ 16777216 ∧ ∀ (g c p : Addr) (H' : Hp), g ≠ c → g ≠ p → c ≠ p → H g = none → H c = none → H p = none →
  H' g = some (.lst ((greatOf ns).map V.int)) → H' c = some (.lst ((cellsOf ns).map V.int)) → H' p = some (stDict g c ⟨greatOf ns, cellsOf ns, 0, 0, []⟩) → (∀ b, b ≠ g → b ≠ c → b ≠ p → H' b = H b) → Q (.ref p) H'
def t_begun (K : PySem.W.Frag) : TS := tSeq (tAsg (tLc (iList K (tVar 0)) (gName 2) tGt tG [2]) (gName 1)) (tRet (tDisp [(tC (kV kGreat), tVar 1), (tC (kV kCells), tLc (iList K (tVar 0)) (gName 2) tYes (tAb 2) [2]), (tC (kV kLeft), tC (.int 0)), (tC (kV kTurn), tC (.int 0))]))
theorem merge4 (g c : V) : mergeK [] [(kGreat, g), (kCells, c), (kLeft, V.int 0), (kTurn, V.int 0)] = [(kGreat, g), (kCells, c), (kLeft, .int 0), (kTurn, .int 0)] := by
  simp [mergeK, L2.putK, eq_false kn1, eq_false kn2, eq_false kn3, eq_false kn4, eq_false kn5, eq_false kn6]
theorem sql_upd {K : PySem.W.Frag} {H : Hp} {a D : Addr} {xs : List V} {o : HO} (hs : SqL K H a xs) (hD : H D = none) : SqL K (upd H D o) a xs := by
  rcases hs with (h | ⟨o, h⟩) | h
  · exact .inl (.inl (by rw [upd_ne (ne_of_none h hD)]; exact h))
  · exact .inl (.inr ⟨o, by rw [upd_ne (ne_of_none h hD)]; exact h⟩)
  · exact .inr h
theorem begun_pure {K : PySem.W.Frag} {vs : List V} {H : Hp} {Q : VK} {E : XK} (h : spBegun K vs H Q E) : t_begun K { nx := fun _ H' => Q .non H', rt := Q } (L2.start ["script", "great", "cell"] vs) H := by
  obtain ⟨a, ns, rfl, hs, hn, q⟩ := h
  refine ⟨_, rfl, a, rfl, ⟨_, hs⟩, ?_⟩
  refine lc_great (Q := fun v H1 => tRet (tDisp [(tC (kV kGreat), tVar 1), (tC (kV kCells), tLc (iList K (tVar 0)) (gName 2) tYes (tAb 2) [2]), (tC (kV kLeft), tC (.int 0)), (tC (kV kTurn), tC (.int 0))]) { nx := fun _ H' => Q .non H', rt := Q } ((L2.start ["script", "great", "cell"] [V.ref a]).set 1 (some v)) H1) (by simp [L2.start]) hn hs fun g hg => ?_
  intro p hp
  have hgp : g ≠ p := fun z => by rw [← z, upd_same] at hp; cases hp
  have hp0 : H p = none := by rw [upd_ne (Ne.symm hgp)] at hp; exact hp
  refine ⟨_, rfl, ?_⟩
  have hs2 := sql_upd (o := .dK []) (sql_upd (o := .lst ((greatOf ns).map V.int)) hs hg) hp
  refine ⟨_, rfl, a, rfl, ⟨_, hs2⟩, ?_⟩
  refine lc_cells (Q := fun v H1 => tPairs [(tC (kV kLeft), tC (.int 0)), (tC (kV kTurn), tC (.int 0))] ((L2.start ["script", "great", "cell"] [V.ref a]).set 1 (some (.ref g))) H1 fun ps H3 => H3 p = some (.dK []) ∧ ∃ kvs : List (Key × V), ((kV kGreat, V.ref g) :: (kV kCells, v) :: ps) = kvs.map (fun kv => (kV kv.1, kv.2)) ∧ kvs.length ≤ 15 ∧ Q (.ref p) (upd H3 p (.dK (mergeK [] kvs)))) (by simp [L2.start]) hn hs2 fun c hc => ?_
  have hcp : c ≠ p := fun z => by rw [z, upd_same] at hc; cases hc
  have hcg : c ≠ g := fun z => by rw [z, upd_ne hgp, upd_same] at hc; cases hc
  have hc0 : H c = none := by rw [upd_ne hcp, upd_ne hcg] at hc; exact hc
  refine ⟨by rw [upd_ne (Ne.symm hcp), upd_same], [(kGreat, .ref g), (kCells, .ref c), (kLeft, .int 0), (kTurn, .int 0)], rfl, by simp, ?_⟩
  rw [merge4]
  refine q g c p _ (Ne.symm hcg) hgp hcp hg hc0 hp0 ?_ ?_ upd_same fun b h1 h2 h3 => ?_
  · rw [upd_ne hgp, upd_ne (Ne.symm hcg), upd_ne hgp, upd_same]
  · rw [upd_ne hcp, upd_same]
  · rw [upd_ne h3, upd_ne h2, upd_ne h3, upd_ne h1]
end DS
set_option maxRecDepth 100000
set_option maxHeartbeats 1000000
namespace PR
open PySem PySem.Spec L2 DS
/-- what isinstance gives -/
structure Kx (K : PySem.W.Frag) : Prop where
  obj : objB K (ce K "House") = true
  hh : PySem.W.kitOne K (.ref (ce K "House")) (.ref (ce K "House")) = some true
  hn : PySem.W.kitOne K (.type "NoneType") (.ref (ce K "House")) = some false
section
variable {K : PySem.W.Frag} (X : Kx K) {S : DrawSt} {R : D → DrawSt → Prop}
/-- plain data, as drawn things are -/
def Pl : D → Bool
  | .non | .bl _ | .int _ | .str _ | .tup _ | .lst _ | .dic _ => true
  | _ => false
def isWhole : D → Bool
  | .int _ => true
  | _ => false
def isIntB : D → Bool
  | .int _ | .bl _ => true
  | _ => false
def isBoolB : D → Bool
  | .bl _ => true
  | _ => false
def isTupB : D → Bool
  | .tup _ => true
  | _ => false
theorem isi1 {d t : D} {a b : Value} {r : Bool} (h1 : tyD K d = some a) (h2 : clD K t = some b) (h3 : PySem.W.kitOne K a b = some r) (ht : ∀ ts, t ≠ .tup ts) : isiD K [d, t] = some (.bl r) := by
  unfold isiD
  split
  · rename_i x ts e
    cases e
    exact absurd rfl (ht _)
  · rename_i x t' _ e
    cases e
    rw [h1, h2]
    show (PySem.W.kitOne K a b).map D.bl = _
    rw [h3]; rfl
  · rename_i h1' h2'
    exact (h2' _ _ rfl).elim
theorem isi_int {d : D} (h : Pl d = true) : isiD K [d, .ty "int"] = some (.bl (isIntB d)) := by
  cases d <;> first | (cases h; done) | exact isi1 rfl rfl k_nn_int (fun _ z => by cases z) | exact isi1 rfl rfl k_bool_int (fun _ z => by cases z) | exact isi1 rfl rfl k_int_int (fun _ z => by cases z) | exact isi1 rfl rfl k_str_int (fun _ z => by cases z) | exact isi1 rfl rfl k_tuple_int (fun _ z => by cases z) | exact isi1 rfl rfl k_list_int (fun _ z => by cases z) | exact isi1 rfl rfl k_dict_int (fun _ z => by cases z)
theorem isi_bool {d : D} (h : Pl d = true) : isiD K [d, .ty "bool"] = some (.bl (isBoolB d)) := by
  cases d <;> first | (cases h; done) | exact isi1 rfl rfl k_nn_bool (fun _ z => by cases z) | exact isi1 rfl rfl k_bool_bool (fun _ z => by cases z) | exact isi1 rfl rfl k_int_bool (fun _ z => by cases z) | exact isi1 rfl rfl k_str_bool (fun _ z => by cases z) | exact isi1 rfl rfl k_tuple_bool (fun _ z => by cases z) | exact isi1 rfl rfl k_list_bool (fun _ z => by cases z) | exact isi1 rfl rfl k_dict_bool (fun _ z => by cases z)
theorem isi_tup {d : D} (h : Pl d = true) : isiD K [d, .ty "tuple"] = some (.bl (isTupB d)) := by
  cases d <;> first | (cases h; done) | exact isi1 rfl rfl k_nn_tuple (fun _ z => by cases z) | exact isi1 rfl rfl k_bool_tuple (fun _ z => by cases z) | exact isi1 rfl rfl k_int_tuple (fun _ z => by cases z) | exact isi1 rfl rfl k_str_tuple (fun _ z => by cases z) | exact isi1 rfl rfl k_tuple_tuple (fun _ z => by cases z) | exact isi1 rfl rfl k_list_tuple (fun _ z => by cases z) | exact isi1 rfl rfl k_dict_tuple (fun _ z => by cases z)
theorem whole_eq (d : D) : (isIntB d && !isBoolB d) = isWhole d := by cases d <;> rfl
theorem is_number_eq {d : D} (h : Pl d = true) : F_is_number K [d] S = .ok (.bl (isWhole d)) S := by
  refine fok_eq ?_
  unfold F_is_number m_is_number
  rw [← whole_eq]
  simp [env0, isi_int h, isi_bool h]
  cases e1 : isIntB d <;> cases e2 : isBoolB d <;> simp_all
def below : D → Int → Bool
  | .int i, n => decide (0 ≤ i) && decide (i < n)
  | _, _ => false
theorem whole_inv {d : D} (h : isWhole d = true) : ∃ i, d = .int i := by cases d <;> first | exact ⟨_, rfl⟩ | cases h
theorem is_below_eq {d : D} {n : Int} (h : Pl d = true) : F_is_below K [d, .int n] S = .ok (.bl (below d n)) S := by
  refine fok_eq ?_
  unfold F_is_below m_is_below
  simp [env0, is_number_eq h]
  cases hw : isWhole d with
  | true =>
    obtain ⟨i, rfl⟩ := whole_inv hw
    simp [below]
    by_cases h0 : 0 ≤ i <;> simp [h0]
    omega
  | false =>
    cases d <;> first | (cases hw; done) | simp [below]
/-- a house as it stands -/
def houseD (rooms : Int) (doors : D) : D := .obj "House" [("rooms", .int rooms), ("doors", doors)]
theorem fld_rooms {r : Int} {ds : D} : fldD "House" "rooms" (houseD r ds) = some (.int r) := rfl
mutual
/-- plain data, to the ground -/
def Pd : D → Bool
  | .non | .bl _ | .int _ | .str _ | .dic _ => true
  | .tup ds | .lst ds => Pds ds
  | _ => false
def Pds : List D → Bool
  | [] => true
  | d :: r => Pd d && Pds r
end
theorem Pd.pl {d : D} (h : Pd d = true) : Pl d = true := by cases d <;> first | rfl | (simp [Pd] at h; done)
@[simp] theorem absD_int (i : Int) : absD [.int i] = some (.int (if i < 0 then -i else i)) := rfl
/-- the order of states -/
def rankLt (a n a' n' : Int) : Bool := lex3 (absI n) a (if n < 0 then 1 else 0) (absI n') a' (if n' < 0 then 1 else 0)
include X in
theorem isi_house {r : Int} {ds : D} : isiD K [houseD r ds, .glob "House"] = some (.bl true) :=
  isi1 (by show (if objB K (ce K "House") then some (Value.ref (ce K "House")) else none) = _; rw [if_pos X.obj]) rfl X.hh (fun _ z => by cases z)
include X in
theorem need_house_eq {r : Int} {ds : D} : F_need_house K [houseD r ds] S = .ok .non S := by
  refine fok_eq ?_
  unfold F_need_house m_need_house
  simp [env0, isi_house X]
end
end PR
set_option maxRecDepth 100000
set_option maxHeartbeats 1000000
namespace PR
open PySem PySem.Spec L2 DS
/-- a rule: from (a, n) to (b, m) -/
structure Rl where
  a : Int
  n : Int
  b : Int
  m : Int
def sD (x k : Int) : D := .tup [.int x, .int k]
def Rl.d (q : Rl) : D := .tup [sD q.a q.n, sD q.b q.m]
def Rl.w (q : Rl) : D := .tup [sD q.a q.n, sD q.b q.m, .tup []]
structure Rl.Good (r : Int) (q : Rl) : Prop where
  a0 : 0 ≤ q.a
  a1 : q.a < r
  n0 : q.n ≠ 0
  b0 : 0 ≤ q.b
  b1 : q.b < r
  m0 : q.m ≠ 0
  lt : rankLt q.b q.m q.a q.n = true
  nb : q.n.natAbs < 1073741824
section
variable {K : PySem.W.Frag} {S : DrawSt} {r : Int}
theorem small_nb {i : Int} (h : i.natAbs < 1073741824) : smallI i = true := by
  unfold smallI
  simp only [decide_eq_true_eq]
  omega
@[simp] theorem ixD_w2 (q : Rl) (d : D) : ixD (.tup [q.w, d]) (.int 0) = some q.w := rfl
end
end PR
namespace PR
open PySem PySem.Spec L2 DS
section
variable {K : PySem.W.Frag} (X : Kx K) {S : DrawSt} {r : Int}
theorem bools_map {α : Type} (f : α → Bool) : ∀ xs : List α, D.bools (xs.map fun x => .bl (f x)) = some (xs.map f)
  | [] => rfl
  | x :: xs => by
    show (D.bools (xs.map fun x => .bl (f x))).map (f x :: ·) = _
    rw [bools_map f xs]; rfl
theorem allD_map {α : Type} (f : α → Bool) (xs : List α) : allD [.lst (xs.map fun x => .bl (f x))] = some (.bl (xs.all f)) := by
  show (D.bools (xs.map fun x => .bl (f x))).map _ = _
  rw [bools_map]
  simp [List.all_map, Function.comp_def]
end
end PR
set_option maxRecDepth 100000
set_option maxHeartbeats 1000000
namespace PR
open PySem PySem.Spec L2 DS
end PR
set_option maxRecDepth 100000
set_option maxHeartbeats 1000000
namespace PR
open PySem PySem.Spec L2 DS
end PR
set_option maxRecDepth 100000
set_option maxHeartbeats 1000000
namespace PR
open PySem PySem.Spec L2 DS
section
variable {K : PySem.W.Frag} {T : List (Addr × PySem.Str)}
theorem number_ok {k : Nat} {S : DrawSt} (h : St T (k + 1) S) {R : D → DrawSt → Prop} (hR : ∀ i S', i ≠ 0 → i.natAbs ≤ 12 → St T k S' → R (.int i) S') : FOk (F__law_rc_number K [.st] S) R := by
  unfold F__law_rc_number m__law_rc_number
  simp [env0]
  refine pick_ok h (by simp) (by simp) fun d S' hd hs => ?_
  have : ∃ i : Int, d = .int i ∧ i ≠ 0 ∧ i.natAbs ≤ 12 := by
    simp at hd
    rcases hd with rfl | rfl | rfl | rfl | rfl | rfl | rfl | rfl | rfl | rfl | rfl | rfl <;> exact ⟨_, rfl, by decide, by decide⟩
  obtain ⟨i, rfl, i0, i1⟩ := this
  exact hR i S' i0 i1 hs
end
end PR
set_option maxRecDepth 100000
set_option maxHeartbeats 2000000
namespace PR
open PySem PySem.Spec L2 DS
section
variable {K : PySem.W.Frag} {T : List (Addr × PySem.Str)}
@[simp] theorem wp_part {fa : M D} {Γ : G} {A : Option Int → G → Prop} : wp (partM fa Γ) A = wp (fa Γ) fun d Γ1 => ∃ i, d = .int i ∧ A (some i) Γ1 := by
  unfold partM
  rw [wp_bind]
  congr 1
  funext d Γ1
  cases d <;> simp
@[simp] theorem wp_slice {fa : M D} {fl fh : M (Option Int)} {Γ : G} {P : D → G → Prop} : wp (sliceM fa fl fh Γ) P = wp (fa Γ) fun d Γ1 => wp (fl Γ1) fun l Γ2 => wp (fh Γ2) fun u Γ3 => ∃ e, sliceD d l u = some e ∧ P e Γ3 := by unfold sliceM; simp only [wp_bind, wp_lift]
@[simp] theorem wp_rev {fa : M D} {Γ : G} {P : D → G → Prop} : wp (revM fa Γ) P = wp (fa Γ) fun d Γ1 => ∃ e, revD d = some e ∧ P e Γ1 := by unfold revM; simp only [wp_bind, wp_lift]
@[simp] theorem sliceD_tup (ds : List D) (l u : Option Int) : sliceD (.tup ds) l u = some (.tup (cutD ds l u)) := rfl
@[simp] theorem sliceD_lst (ds : List D) (l u : Option Int) : sliceD (.lst ds) l u = some (.lst (cutD ds l u)) := rfl
mutual
/-- no tuple or list longer than a thousand -/
def lnB : D → Bool
  | .tup ds | .lst ds => decide (ds.length ≤ 1000) && lnsB ds
  | _ => true
def lnsB : List D → Bool
  | [] => true
  | d :: r => lnB d && lnsB r
end
theorem Pds_all : ∀ {xs : List D}, Pds xs = true ↔ ∀ x ∈ xs, Pd x = true
  | [] => by simp [Pds]
  | x :: xs => by
    show (Pd x && Pds xs) = true ↔ _
    rw [Bool.and_eq_true, Pds_all]
    simp
end
end PR
set_option maxRecDepth 100000
set_option maxHeartbeats 2000000
namespace PR
open PySem PySem.Spec L2 DS
end PR
set_option maxRecDepth 100000
set_option maxHeartbeats 2000000
namespace PR
open PySem PySem.Spec L2 DS
/-- the errors that the laws' word names -/
def WORDS : List String := ["BadHouse", "BadRoom", "BadWalk", "NotHome", "Elsewhere", "BadSpot", "BadTimes", "BadMove", "BadState", "BadPass"]
/-- the errors' classes and what isinstance tells of them -/
structure Ke (K : PySem.W.Frag) (L : List String) : Prop where
  exc : ∀ n ∈ L, excB K (ce K n) = true
  many : ∀ n ∈ L, PySem.W.kitOne K (.ref (ce K n)) (.ref (ce K "TooMany")) = some false
  kit : ∀ n ∈ L, ∀ m ∈ L, PySem.W.kitOne K (.ref (ce K n)) (.ref (ce K m)) = some (decide (n = m))
section
variable {K : PySem.W.Frag} {L : List String} (Y : Ke K L) {S : DrawSt}
include Y in
theorem isi_exc {n m : String} (hn : n ∈ L) (hm : m ∈ L) : isiD K [.exc n, .glob m] = some (.bl (decide (n = m))) :=
  isi1 (by show (if excB K (ce K n) then some (Value.ref (ce K n)) else none) = _; rw [if_pos (Y.exc n hn)]) rfl (Y.kit n hn m hm) (fun _ z => by cases z)
include Y in
theorem isi_many {n : String} (hn : n ∈ L) : isiD K [.exc n, .glob "TooMany"] = some (.bl false) :=
  isi1 (by show (if excB K (ce K n) then some (Value.ref (ce K n)) else none) = _; rw [if_pos (Y.exc n hn)]) rfl (Y.many n hn) (fun _ z => by cases z)
def wordOf (n : String) : PySem.Str :=
  if n = "BadHouse" then "house" else if n = "BadRoom" then "room" else if n = "BadWalk" then "walk" else if n = "NotHome" then "home" else if n = "Elsewhere" then "elsewhere" else
  if n = "BadSpot" then "spot" else if n = "BadTimes" then "times" else if n = "BadMove" then "move" else if n = "BadState" then "state" else if n = "BadPass" then "pass" else "other"
include Y in
theorem word_eq {n : String} (hL : ∀ m ∈ WORDS, m ∈ L) (hn : n ∈ L) : F__law_rc_word K [.exc n] S = .ok (.str (wordOf n)) S := by
  have e := fun m (hm : m ∈ WORDS) => isi_exc Y hn (hL m hm)
  have e1 := e "BadHouse" (by decide)
  have e2 := e "BadRoom" (by decide)
  have e3 := e "BadWalk" (by decide)
  have e4 := e "NotHome" (by decide)
  have e5 := e "Elsewhere" (by decide)
  have e6 := e "BadSpot" (by decide)
  have e7 := e "BadTimes" (by decide)
  have e8 := e "BadMove" (by decide)
  have e9 := e "BadState" (by decide)
  have e10 := e "BadPass" (by decide)
  have e11 := isi_many Y hn
  have is0 : isD (.exc n) .non = some (.bl false) := rfl
  refine fok_eq ?_
  unfold F__law_rc_word m__law_rc_word wordOf
  simp [env0, e1, e2, e3, e4, e5, e6, e7, e8, e9, e10, e11, is0, addD_lst, tgT_mk]
  by_cases c1 : n = "BadHouse"
  · simp [c1]
  by_cases c2 : n = "BadRoom"
  · simp [c1, c2]
  by_cases c3 : n = "BadWalk"
  · simp [c1, c2, c3]
  by_cases c4 : n = "NotHome"
  · simp [c1, c2, c3, c4]
  by_cases c5 : n = "Elsewhere"
  · simp [c1, c2, c3, c4, c5]
  by_cases c6 : n = "BadSpot"
  · simp [c1, c2, c3, c4, c5, c6]
  by_cases c7 : n = "BadTimes"
  · simp [c1, c2, c3, c4, c5, c6, c7]
  by_cases c8 : n = "BadMove"
  · simp [c1, c2, c3, c4, c5, c6, c7, c8]
  by_cases c9 : n = "BadState"
  · simp [c1, c2, c3, c4, c5, c6, c7, c8, c9]
  by_cases c10 : n = "BadPass"
  · simp [c1, c2, c3, c4, c5, c6, c7, c8, c9, c10]
  simp [c1, c2, c3, c4, c5, c6, c7, c8, c9, c10]
end
end PR
set_option maxRecDepth 100000
set_option maxHeartbeats 2000000
namespace PR
open PySem PySem.Spec L2 DS
structure Dr where
  p : Int
  a : Int
  q : Int
  b : Int
def Dr.d (x : Dr) : D := .tup [.int x.p, .int x.a, .int x.q, .int x.b]
structure Dr.Good (r : Int) (x : Dr) : Prop where
  p0 : 0 ≤ x.p
  p1 : x.p < r
  q0 : 0 ≤ x.q
  q1 : x.q < r
  a0 : x.a ≠ 0
  a1 : x.a.natAbs ≤ 12
  b0 : x.b ≠ 0
  b1 : x.b.natAbs ≤ 12
/-- a door from room r to an earlier one -/
def Dr.To (x : Dr) (r : Int) : Prop := (x.p = r ∧ x.q < r) ∨ (x.q = r ∧ x.p < r)
def Linked (r : Int) (xs : List Dr) : Prop := ∀ i, 1 ≤ i → i < r → ∃ x ∈ xs, x.To i
theorem sds_doors : ∀ xs : List Dr, sdsB 1 (xs.map Dr.d) = true
  | [] => rfl
  | x :: xs => by
    show (sdB 1 x.d && sdsB 1 (xs.map Dr.d)) = true
    rw [sds_doors xs]; rfl
@[simp] theorem wp_range2 {r : M (List D)} {Γ : G} {A : List D → G → Prop} : wp (range2M r Γ) A = wp (r Γ) fun ds Γ1 => ∃ i j, ds = [.int i, .int j] ∧ okR i = true ∧ okR j = true ∧ A (rangeL i j) Γ1 := by
  unfold range2M
  rw [wp_bind]
  congr 1
  funext ds Γ1
  split
  · rename_i i j
    split
    · rename_i h
      rw [Bool.and_eq_true] at h
      simp
      constructor
      · exact fun z => ⟨i, j, ⟨rfl, rfl⟩, h.1, h.2, z⟩
      · rintro ⟨_, _, ⟨rfl, rfl⟩, _, _, z⟩
        exact z
    · rename_i h
      rw [Bool.and_eq_true] at h
      simp
      intro h1 h2
      exact absurd ⟨h1, h2⟩ h
  · rename_i h
    simp
    intro i j e
    exact absurd e (h i j)
section
variable {K : PySem.W.Frag} {T : List (Addr × PySem.Str)}
theorem rangeL_cons {i j : Int} (h : i < j) : rangeL i j = .int i :: rangeL (i + 1) j := by
  unfold rangeL
  obtain ⟨n, hn⟩ : ∃ n : Nat, (j - i).toNat = n + 1 := ⟨(j - i).toNat - 1, by omega⟩
  have hn2 : (j - (i + 1)).toNat = n := by omega
  rw [hn, hn2, List.range_succ_eq_map, List.map_cons, List.map_map]
  congr 1
  · simp
  · apply List.map_congr_left
    intro k _
    simp only [Function.comp]
    congr 1
    omega
theorem rangeL_nil {i j : Int} (h : j ≤ i) : rangeL i j = [] := by
  unfold rangeL
  have : (j - i).toNat = 0 := by omega
  rw [this]; rfl
theorem doors1 {r : Int} {m : D} (r1 : r < 1000) {Q : Fl → G → Prop} {k : Nat} (hQ : ∀ xs S' a b c d e f, (∀ x ∈ xs, Dr.Good r x) → Linked r xs → (xs.length : Int) ≤ r - 1 → St T k S' → Q .nx ⟨[.val .st, .val (.int r), .val m, .own (xs.map Dr.d), a, b, c, d, e, f], S'⟩) :
    ∀ (n : Nat) {i : Int} {xs : List Dr} {S : DrawSt} {a b c d e f : Slot}, (r - i).toNat = n → 1 ≤ i → i ≤ r → (∀ x ∈ xs, Dr.Good r x) → Linked i xs → (xs.length : Int) = i - 1 → St T (k + 4 * n) S →
    wp (forS (tgN 4) (seqS (setS 5 (callM 2 (F__law_draw K) (consA (varM 0) (consA (varM 4) nilA))))
      (seqS (parS [6, 7] (consR .v (callM 1 (F__law_rc_number K) (consA (varM 0) nilA)) (consR .v (callM 1 (F__law_rc_number K) (consA (varM 0) nilA)) nilR)))
      (exprS (apM 3 (ifM (boolM (binM eqD (callM 2 (F__law_draw K) (consA (varM 0) (consA (retM (.int 2)) nilA))) (retM (.int 0)))) (tupM (consA (varM 5) (consA (varM 6) (consA (varM 4) (consA (varM 7) nilA))))) (tupM (consA (varM 4) (consA (varM 7) (consA (varM 5) (consA (varM 6) nilA)))))))))) (rangeL i r) ⟨[.val .st, .val (.int r), .val m, .own (xs.map Dr.d), a, b, c, d, e, f], S⟩) Q
  | 0, i, xs, S, a, b, c, d, e, f, hn, i1, ir, hg, hl, hx, h => by
    have : i = r := by omega
    subst this
    rw [rangeL_nil (Int.le_refl _)]
    exact hQ xs S a b c d e f hg hl (by omega) h
  | n + 1, i, xs, S, a, b, c, d, e, f, hn, i1, ir, hg, hl, hx, h => by
    rw [rangeL_cons (by omega)]
    simp
    refine draw_ok (k := k + 4 * n + 3) (by rw [show k + 4 * n + 3 + 1 = k + 4 * (n + 1) by omega]; exact h) i1 (by omega) fun p S1 p0 p1 h1 => ?_
    refine number_ok (k := k + 4 * n + 2) h1 fun u S2 u0 u1 h2 => ?_
    refine number_ok (k := k + 4 * n + 1) h2 fun v S3 v0 v1 h3 => ?_
    try simp
    refine draw_ok (k := k + 4 * n) h3 (by decide) (by decide) fun w S4 w0 w1 h4 => ?_
    have step := fun (x : Dr) (gx : x.Good r) (tx : x.To i) (a b c d e f : Slot) => doors1 r1 hQ n (i := i + 1) (xs := xs ++ [x]) (S := S4) (a := a) (b := b) (c := c) (d := d) (e := e) (f := f) (by omega) (by omega) (by omega)
      (fun y hy => by
        rcases List.mem_append.mp hy with hy | hy
        · exact hg y hy
        · rw [List.mem_singleton.mp hy]; exact gx)
      (fun j j1 j2 => by
        by_cases hj : j < i
        · obtain ⟨y, hy, ty⟩ := hl j j1 hj
          exact ⟨y, List.mem_append_left _ hy, ty⟩
        · have : j = i := by omega
          subst this
          exact ⟨x, List.mem_append_right _ (List.mem_singleton.mpr rfl), tx⟩)
      (by rw [List.length_append, List.length_singleton]; omega) h4
    have z1 : 0 ≤ i := by omega
    have z2 : i < r := by omega
    have z3 : p < r := by omega
    by_cases hw : w = 0
    · simp [hw]
      refine ⟨by omega, ?_⟩
      have := step ⟨p, u, i, v⟩ ⟨p0, z3, z1, z2, u0, u1, v0, v1⟩ (.inr ⟨rfl, p1⟩)
      simp only [List.map_append, List.map_cons, List.map_nil, Dr.d] at this
      exact this _ _ _ _ _ _
    · simp [hw]
      refine ⟨by omega, ?_⟩
      have := step ⟨i, v, p, u⟩ ⟨z1, z2, p0, z3, v0, v1, u0, u1⟩ (.inl ⟨rfl, p1⟩)
      simp only [List.map_append, List.map_cons, List.map_nil, Dr.d] at this
      exact this _ _ _ _ _ _
theorem doors2 {r : Int} {m : D} (r0 : 1 ≤ r) (r1 : r < 1000) {Q : Fl → G → Prop} {k : Nat} {Z : Nat} (hZ : Z < 100000) (hQ : ∀ xs S' a b c d e f, (∀ x ∈ xs, Dr.Good r x) → Linked r xs → xs.length ≤ Z → St T k S' → Q .nx ⟨[.val .st, .val (.int r), .val m, .own (xs.map Dr.d), a, b, c, d, e, f], S'⟩) :
    ∀ (n : Nat) {ls : List Int} {xs : List Dr} {S : DrawSt} {a b c d e f : Slot}, ls.length = n → (∀ x ∈ xs, Dr.Good r x) → Linked r xs → xs.length + n ≤ Z → St T (k + 5 * n) S →
    wp (forS (tgN 8) (seqS (setS 9 (andV (cmpP neD 3 (lstV (lstM nilA))) (binM eqD (callM 2 (F__law_draw K) (consA (varM 0) (consA (retM (.int 6)) nilA))) (retM (.int 0)))))
      (exprS (apM 3 (ifM (boolM (varM 9)) (callB 2 (FB__law_pick K) (consB (varM 0) (lastB 3))) (tupM (consA (callM 2 (F__law_draw K) (consA (varM 0) (consA (varM 1) nilA))) (consA (callM 1 (F__law_rc_number K) (consA (varM 0) nilA)) (consA (callM 2 (F__law_draw K) (consA (varM 0) (consA (varM 1) nilA))) (consA (callM 1 (F__law_rc_number K) (consA (varM 0) nilA)) nilA))))))))) (ls.map D.int) ⟨[.val .st, .val (.int r), .val m, .own (xs.map Dr.d), a, b, c, d, e, f], S⟩) Q
  | 0, ls, xs, S, a, b, c, d, e, f, hn, hg, hl, hx, h => by
    have : ls = [] := List.length_eq_zero_iff.mp hn
    subst this
    exact hQ xs S a b c d e f hg hl (by omega) h
  | n + 1, [], xs, S, a, b, c, d, e, f, hn, hg, hl, hx, h => by cases hn
  | n + 1, l :: ls, xs, S, a, b, c, d, e, f, hn, hg, hl, hx, h => by
    have ne := lst_ne (ds := xs.map Dr.d) (sds_doors xs) (by decide)
    have step := fun (x : Dr) (gx : x.Good r) (S4 : DrawSt) (h4 : St T (k + 5 * n) S4) (a b c d e f : Slot) => doors2 r0 r1 hZ hQ n (ls := ls) (xs := xs ++ [x]) (S := S4) (a := a) (b := b) (c := c) (d := d) (e := e) (f := f) (by simpa using hn)
      (fun y hy => by
        rcases List.mem_append.mp hy with hy | hy
        · exact hg y hy
        · rw [List.mem_singleton.mp hy]; exact gx)
      (fun j j1 j2 => by
        obtain ⟨y, hy, ty⟩ := hl j j1 j2
        exact ⟨y, List.mem_append_left _ hy, ty⟩)
      (by rw [List.length_append, List.length_singleton]; omega) h4
    have new := fun (S1 : DrawSt) (h1 : St T (k + 5 * n + 4) S1) (f : Slot) => show FOk (F__law_draw K [.st, .int r] S1) (fun d1 S2 => FOk (F__law_rc_number K [.st] S2) fun d2 S3 => FOk (F__law_draw K [.st, .int r] S3) fun d3 S4 => FOk (F__law_rc_number K [.st] S4) fun d4 S5 => ∃ x : Dr, x.Good r ∧ D.tup [d1, d2, d3, d4] = x.d ∧ St T (k + 5 * n) S5) from
      draw_ok (k := k + 5 * n + 3) h1 r0 (by omega) fun p S2 p0 p1 h2 => number_ok (k := k + 5 * n + 2) h2 fun u S3 u0 u1 h3 => draw_ok (k := k + 5 * n + 1) h3 r0 (by omega) fun q S4 q0 q1 h4 => number_ok (k := k + 5 * n) h4 fun v S5 v0 v1 h5 => ⟨⟨p, u, q, v⟩, ⟨p0, p1, q0, q1, u0, u1, v0, v1⟩, rfl, h5⟩
    cases hxs : xs with
    | nil =>
      subst hxs
      have ne0 : neD (.lst []) (.lst []) = some (.bl false) := ne
      simp [ne0]
      refine FOk.mono (new S (h.mono (by omega)) e) fun d1 S2 q => FOk.mono q fun d2 S3 q => FOk.mono q fun d3 S4 q => FOk.mono q fun d4 S5 q => ?_
      obtain ⟨x, gx, ex, hs⟩ := q
      have := step x gx S5 hs
      simp only [List.nil_append, List.map_cons, List.map_nil] at this
      simp [ex]
      exact this _ _ _ _ _ _
    | cons y ys =>
      rw [← hxs]
      have ne1 : neD (.lst (xs.map Dr.d)) (.lst []) = some (.bl true) := by rw [ne, hxs]; rfl
      simp [ne1]
      refine draw_ok (k := k + 5 * n + 4) h (by decide) (by decide) fun w S1 w0 w1 h1 => ?_
      by_cases hw : w = 0
      · simp [hw]
        refine pickB_ok (k := k + 5 * n + 3) h1 (by rw [hxs]; simp) (by rw [List.length_map]; omega) fun d S2 hd h2 => ?_
        obtain ⟨x, hx', rfl⟩ := List.mem_map.mp hd
        have := step x (hg x hx') S2 (h2.mono (by omega))
        simp only [List.map_append, List.map_cons, List.map_nil] at this
        exact ⟨by omega, this _ _ _ _ _ _⟩
      · simp [hw]
        refine FOk.mono (new S1 h1 e) fun d1 S2 q => FOk.mono q fun d2 S3 q => FOk.mono q fun d3 S4 q => FOk.mono q fun d4 S5 q => ?_
        obtain ⟨x, gx, ex, hs⟩ := q
        have := step x gx S5 hs
        simp only [List.map_append, List.map_cons, List.map_nil] at this
        simp [ex]
        exact ⟨by omega, this _ _ _ _ _ _⟩
end
end PR
set_option maxRecDepth 100000
set_option maxHeartbeats 2000000
namespace PR
open PySem PySem.Spec L2 DS
section
variable {K : PySem.W.Frag} {T : List (Addr × PySem.Str)}
theorem Dr.inj {x y : Dr} (h : x.d = y.d) : x = y := by
  cases x; cases y
  simp [Dr.d] at h
  obtain ⟨h1, h2, h3, h4⟩ := h
  subst h1 h2 h3 h4
  rfl
theorem undr : ∀ {ds : List D} {xs : List Dr}, (∀ d ∈ ds, d ∈ xs.map Dr.d) → ∃ ys : List Dr, ds = ys.map Dr.d ∧ ∀ y ∈ ys, y ∈ xs
  | [], _, _ => ⟨[], rfl, by simp⟩
  | d :: ds, xs, h => by
    obtain ⟨x, hx, rfl⟩ := List.mem_map.mp (h d List.mem_cons_self)
    obtain ⟨ys, e, hy⟩ := undr (ds := ds) (xs := xs) fun d hd => h d (List.mem_cons_of_mem _ hd)
    exact ⟨x :: ys, by rw [e]; rfl, fun y hy' => by
      rcases List.mem_cons.mp hy' with rfl | hy'
      · exact hx
      · exact hy y hy'⟩
/-- what the drawn doors are -/
structure Drawn (r : Int) (ys : List Dr) : Prop where
  good : ∀ y ∈ ys, Dr.Good r y
  link : Linked r ys
theorem doors_ok {k : Nat} {S : DrawSt} {r : Int} {m : Nat} (h : St T (k + 6000) S) (r0 : 1 ≤ r) (r1 : r ≤ 12) (m1 : m ≤ 20) {R : D → DrawSt → Prop} (hR : ∀ ys S', Drawn r ys → (ys.length : Int) ≤ r - 1 + m → St T k S' → R (.tup (ys.map Dr.d)) S') : FOk (F__law_rc_doors K [.st, .int r, .int m] S) R := by
  unfold F__law_rc_doors m__law_rc_doors
  have okr : okR r = true := by unfold okR; simp; omega
  simp [env0, okR, okr]
  refine ⟨1, r, ⟨rfl, rfl⟩, by omega, by omega, ?_⟩
  refine doors1 (k := k + 5000) (by omega) (fun xs S1 a b c d e f hg hl hx h1 => ?_) (r - 1).toNat (i := 1) (xs := []) rfl (by omega) (by omega) (by simp) (fun j j1 j2 => by omega) (by simp) (h.mono (by omega))
  simp [okR]
  refine draw_ok (k := k + 4999) h1 (by omega) (by omega) fun cn S2 c0 c1 h2 => ?_
  have er : rangeL 0 cn = (((List.range (cn - 0).toNat).map fun i : Nat => (0 : Int) + i)).map D.int := by unfold rangeL; rw [List.map_map]; rfl
  refine ⟨cn, rfl, ⟨by omega, by omega⟩, ?_⟩
  rw [er]
  refine doors2 (k := k + 1000) (Z := xs.length + (cn - 0).toNat) r0 (by omega) (by omega) (fun zs S3 a b c d e f hg3 hl3 hz h3 => ?_) (cn - 0).toNat (ls := (List.range (cn - 0).toNat).map fun i : Nat => (0 : Int) + i) (by rw [List.length_map, List.length_range]) hg hl (Nat.le_refl _) (h2.mono (by omega))
  simp
  refine mixed_ok (k := k) (n := 1) (h3.mono (by rw [List.length_map]; omega)) (by rw [List.length_map]; omega) (sds_doors zs) (by decide) fun ds' S4 hp h4 => ?_
  obtain ⟨ys, rfl, hy⟩ := undr (ds := ds') (xs := zs) fun d hd => hp.subset hd
  have hlen := hp.length_eq
  rw [List.length_map, List.length_map] at hlen
  simp [tupleD]
  refine hR ys S4 ⟨fun y hy' => hg3 y (hy y hy'), fun j j1 j2 => ?_⟩ ?_ h4
  · obtain ⟨x, hx', tx⟩ := hl3 j j1 j2
    have : x.d ∈ ys.map Dr.d := hp.symm.subset (List.mem_map.mpr ⟨x, hx', rfl⟩)
    obtain ⟨y, hy', e⟩ := List.mem_map.mp this
    rw [Dr.inj e] at hy'
    exact ⟨x, hy', tx⟩
  · omega
end
end PR
set_option maxRecDepth 100000
set_option maxHeartbeats 2000000
namespace PR
open PySem PySem.Spec L2 DS
section
variable {K : PySem.W.Frag} {T : List (Addr × PySem.Str)}
theorem told_ok {k : Nat} {S : DrawSt} (h : St T (k + 6001) S) {R : D → DrawSt → Prop} (hR : ∀ r ys S', 1 ≤ r → r ≤ 3 → Drawn r ys → ys.length ≤ 5 → St T k S' → R (.tup [.int r, .tup (ys.map Dr.d)]) S') : FOk (F__law_rc_told K [.st] S) R := by
  unfold F__law_rc_told m__law_rc_told
  simp [env0]
  refine pick_ok (k := k + 6000) h (by simp) (by simp) fun d S1 hd h1 => ?_
  have : ∃ r : Int, d = .int r ∧ 1 ≤ r ∧ r ≤ 3 := by
    simp at hd
    rcases hd with rfl | rfl | rfl | rfl | rfl <;> exact ⟨_, rfl, by decide, by decide⟩
  obtain ⟨r, rfl, r1, r3⟩ := this
  by_cases hr : 1 < r
  · simp [hr]
    exact doors_ok (m := 3) h1 r1 (by omega) (by decide) fun ys S2 hd hl h2 => by
      exact hR r ys S2 r1 r3 hd (by omega) h2
  · simp [hr]
    exact doors_ok (m := 2) h1 r1 (by omega) (by decide) fun ys S2 hd hl h2 => by
      exact hR r ys S2 r1 r3 hd (by omega) h2
end
end PR
set_option maxRecDepth 100000
set_option maxHeartbeats 2000000
namespace PR
open PySem PySem.Spec L2 DS
section
variable {K : PySem.W.Frag} {S : DrawSt}
theorem door_eq {r : Int} {x : Dr} (g : x.Good r) : F_is_door K [x.d, .int r] S = .ok (.bl true) S := by
  refine fok_eq ?_
  unfold F_is_door m_is_door
  have it : isiD K [x.d, .ty "tuple"] = some (.bl true) := isi_tup (d := x.d) rfl
  have b1 : F_is_below K [.int x.p, .int r] S = .ok (.bl true) S := by rw [is_below_eq rfl]; simp [below, g.p0, g.p1]
  have b2 : F_is_below K [.int x.q, .int r] S = .ok (.bl true) S := by rw [is_below_eq rfl]; simp [below, g.q0, g.q1]
  have t4 : ∀ Γ, tgT 4 (tgCons (tgN 2) (tgCons (tgN 3) (tgCons (tgN 4) (tgCons (tgN 5) tgNil)))) x.d Γ = some (setV 5 (.val (.int x.b)) (setV 4 (.val (.int x.q)) (setV 3 (.val (.int x.a)) (setV 2 (.val (.int x.p)) Γ)))) := fun Γ => rfl
  have l4 : lenD [x.d] = some (.int 4) := rfl
  simp [env0, it, l4, t4, b1, b2]
  have z : ∀ i : Int, i ≠ 0 → i.natAbs ≤ 12 → F_is_number K [.int i] S = .ok (.bl true) S := fun i _ _ => is_number_eq rfl
  have row := lc_pure (vs := [6]) (tg := tgN 6) (tt := retM true) (te := (andV (callM 1 (F_is_number K) (consA (varM 6) nilA)) (andV (binM neD (varM 6) (retM (.int 0))) (chainM leD leD (negM (retM (.int 999))) (varM 6) (retM (.int 999))))))
    (Γw := ⟨[.val x.d, .val (.int r), .val (.int x.p), .val (.int x.a), .val (.int x.q), .val (.int x.b), .un], S⟩) (fun _ => true) (fun _ => .bl true) (ds := [.int x.a, .int x.b]) (acc := []) (fun d hd => by
      have : ∃ i : Int, d = .int i ∧ i ≠ 0 ∧ i.natAbs ≤ 12 := by
        simp at hd
        rcases hd with rfl | rfl
        · exact ⟨_, rfl, g.a0, g.a1⟩
        · exact ⟨_, rfl, g.b0, g.b1⟩
      obtain ⟨i, rfl, i0, i1⟩ := this
      refine ⟨_, rfl, rfl, fun _ => res_eq ?_, rfl⟩
      have h1 : (-999 : Int) ≤ i := by omega
      have h2 : i ≤ 999 := by omega
      simp [z i i0 i1, i0, h1, h2]) (by simp)
  simp [wipeG, wipeE, row, allD, D.bools]
end
end PR
set_option maxRecDepth 100000
set_option maxHeartbeats 2000000
namespace PR
open PySem PySem.Spec L2 DS
section
variable {K : PySem.W.Frag} {S : DrawSt}
theorem doors_eq {r : Int} {ys : List Dr} (hg : ∀ y ∈ ys, Dr.Good r y) (hl : ys.length ≤ 20) : F_are_doors K [.tup (ys.map Dr.d), .int r] S = .ok (.bl true) S := by
  refine fok_eq ?_
  unfold F_are_doors m_are_doors
  have it : isiD K [.tup (ys.map Dr.d), .ty "tuple"] = some (.bl true) := isi_tup (d := .tup (ys.map Dr.d)) rfl
  have nl : ¬ (20 : Int) < ys.length := by omega
  have row := lc_pure (vs := [2]) (tg := tgN 2) (tt := retM true) (te := (callM 2 (F_is_door K) (consA (varM 2) (consA (varM 1) nilA)))) (Γw := ⟨[.val (.tup (ys.map Dr.d)), .val (.int r), .un], S⟩) (fun _ => true) (fun _ => .bl true) (ds := ys.map Dr.d) (acc := []) (fun d hd => by
      obtain ⟨y, hy, rfl⟩ := List.mem_map.mp hd
      refine ⟨_, rfl, rfl, fun _ => res_eq ?_, rfl⟩
      simp [door_eq (hg y hy)]) (by simp; omega)
  have al : allD [.lst (ys.map fun _ => .bl true)] = some (.bl true) := by rw [allD_map (fun _ => true)]; simp
  have e : (List.filter (fun _ => true) (ys.map Dr.d)).map (fun _ => D.bl true) = ys.map fun _ => .bl true := by
    rw [List.filter_eq_self.mpr (by simp), List.map_map]; rfl
  rw [List.nil_append, e] at row
  simp [env0, it, nl, wipeG, wipeE, row, al]
end
end PR
set_option maxRecDepth 100000
set_option maxHeartbeats 2000000
namespace PR
open PySem PySem.Spec L2 DS
section
variable {Γ : G} {P : D → G → Prop} {Q : Fl → G → Prop} {fa fk fv : M D} {i : Nat}
@[simp] theorem wp_din {neg : Bool} : wp (dinP neg i fa Γ) P = wp (fa Γ) fun y Γ1 => ∃ k kvs, keyD y = some k ∧ peekK i Γ1 = some kvs ∧ P (.bl (xor neg (dGet kvs k).isSome)) Γ1 := by
  unfold dinP
  rw [wp_bind]
  congr 1
  funext y Γ1
  cases h1 : keyD y with
  | none => simp
  | some k =>
    cases h2 : peekK i Γ1 with
    | none => simp
    | some kvs => simp
def owndE : Option Slot → Option (List (Key × D))
  | some (.ownd ds) => some ds
  | _ => none
@[simp] theorem owndE_ownd {ds : List (Key × D)} : owndE (some (.ownd ds)) = some ds := rfl
@[simp] theorem wp_dput : wp (dputM i fk fv Γ) Q = wp (fv Γ) fun v Γ1 => ∃ ks0, owndE Γ1.env[i]? = some ks0 ∧ wp (fk Γ1) fun y Γ2 => ∃ k kvs, keyD y = some k ∧ owndE Γ2.env[i]? = some kvs ∧ kvs.length < 16777216 ∧ Q .nx (setV i (.ownd (dPut kvs k v)) Γ2) := by
  unfold dputM
  rw [wp_bind]
  congr 1
  funext v Γ1
  cases h : Γ1.env[i]? with
  | none => simp [owndE]
  | some s =>
    cases s with
    | ownd ds0 =>
      simp only [owndE_ownd, Option.some.injEq, exists_eq_left', wp_bind]
      congr 1
      funext y Γ2
      cases h1 : keyD y with
      | none => simp
      | some k =>
        cases h2 : Γ2.env[i]? with
        | none => simp [owndE]
        | some s1 =>
          cases s1 with
          | ownd ds =>
            simp only [owndE_ownd, Option.some.injEq, exists_eq_left']
            split
            · rename_i hl; simp [hl]
            · rename_i hl; simp [hl]
          | _ => simp [owndE]
    | _ => simp [owndE]
/-- the rooms known -/
def kn (l : List Int) : List (Key × D) := l.map fun i => (.inl i, .bl true)
theorem dGet_kn {b : Int} : ∀ l : List Int, (dGet (kn l) (.inl b)).isSome = decide (b ∈ l)
  | [] => rfl
  | a :: l => by
    have ih := dGet_kn (b := b) l
    unfold dGet kn at *
    by_cases e : a = b
    · simp [List.find?_cons, e]
    · have e' : ¬ b = a := fun h => e h.symm
      simp [List.find?_cons, e, e'] at ih ⊢
      exact ih
theorem dPut_kn {b : Int} {l : List Int} (h : b ∉ l) : dPut (kn l) (.inl b) (.bl true) = kn (l ++ [b]) := by
  unfold dPut
  have : ((kn l).any fun kv => decide (kv.1 = Sum.inl b)) = false := by
    simp [kn]
    intro a ha e
    exact h (e ▸ ha)
  rw [if_neg (by rw [this]; simp)]
  simp [kn]
end
end PR
set_option maxRecDepth 100000
set_option maxHeartbeats 2000000
namespace PR
open PySem PySem.Spec L2 DS
def Cl (known line : List Int) (x : Dr) : Prop := (x.p ∈ known → x.p ∉ line → x.q ∈ known) ∧ (x.q ∈ known → x.q ∉ line → x.p ∈ known)
structure Jn (r : Int) (known line : List Int) : Prop where
  nd : known.Nodup
  rg : ∀ i ∈ known, 0 ≤ i ∧ i < r
  z : 0 ∈ known
  sub : ∀ i ∈ line, i ∈ known
theorem Cl.add {known line : List Int} {x : Dr} {b : Int} (h : Cl known line x) (hb : b ∉ known) : Cl (known ++ [b]) (line ++ [b]) x := by
  refine ⟨fun h1 h2 => ?_, fun h1 h2 => ?_⟩
  · simp at h1 h2 ⊢
    rcases h1 with h1 | h1
    · exact .inl (h.1 h1 h2.1)
    · exact absurd h1 h2.2
  · simp at h1 h2 ⊢
    rcases h1 with h1 | h1
    · exact .inl (h.2 h1 h2.1)
    · exact absurd h1 h2.2
theorem Jn.add {r : Int} {known line : List Int} {b : Int} (h : Jn r known line) (hb : b ∉ known) (b0 : 0 ≤ b) (b1 : b < r) : Jn r (known ++ [b]) (line ++ [b]) := by
  refine ⟨?_, fun i hi => ?_, by simp [h.z], fun i hi => ?_⟩
  · rw [List.nodup_append]
    refine ⟨h.nd, by simp, fun a ha c hc => ?_⟩
    simp at hc
    subst hc
    exact fun e => hb (e ▸ ha)
  · simp at hi
    rcases hi with hi | rfl
    · exact h.rg i hi
    · exact ⟨b0, b1⟩
  · simp at hi ⊢
    rcases hi with hi | hi
    · exact .inl (h.sub i hi)
    · exact .inr hi
theorem Jn.len {r : Int} {known line : List Int} (h : Jn r known line) : known.length ≤ r.toNat := by
  have s : known.map Int.toNat ⊆ List.range r.toNat := by
    intro i hi
    obtain ⟨j, hj, rfl⟩ := List.mem_map.mp hi
    have := h.rg j hj
    simp
    omega
  have nd : (known.map Int.toNat).Nodup := by
    rw [List.nodup_iff_pairwise_ne, List.pairwise_map]
    refine List.pairwise_iff_forall_sublist.mpr fun {a b} hs => ?_
    have hab : a ≠ b := List.pairwise_iff_forall_sublist.mp h.nd hs
    have ha := h.rg a (hs.subset (by simp))
    have hb := h.rg b (hs.subset (by simp))
    intro e
    exact hab (by omega)
  have := List.Nodup.length_le_of_subset nd s
  simpa using this
theorem all_known {r : Int} {known : List Int} {ys : List Dr} (h : Jn r known []) (hg : ∀ y ∈ ys, Dr.Good r y) (hl : Linked r ys) (hc : ∀ x ∈ ys, Cl known [] x) : ∀ n : Nat, (n : Int) < r → (n : Int) ∈ known := by
  intro n
  induction n using Nat.strongRecOn with
  | _ n ih =>
    intro hn
    by_cases e : n = 0
    · subst e; exact h.z
    · obtain ⟨x, hx, ht⟩ := hl n (by omega) hn
      have hcl := hc x hx
      have g := hg x hx
      rcases ht with ⟨e1, e2⟩ | ⟨e1, e2⟩
      · have q0 := g.q0
        have := ih x.q.toNat (by omega) (by omega)
        rw [show ((x.q.toNat : Nat) : Int) = x.q by omega] at this
        rw [← e1]
        exact hcl.2 this (by simp)
      · have q0 := g.p0
        have := ih x.p.toNat (by omega) (by omega)
        rw [show ((x.p.toNat : Nat) : Int) = x.p by omega] at this
        rw [← e1]
        exact hcl.1 this (by simp)
end PR
set_option maxRecDepth 100000
set_option maxHeartbeats 2000000
namespace PR
open PySem PySem.Spec L2 DS
section
variable {K : PySem.W.Frag} {S : DrawSt}
/-- what the search holds before the doors zs are looked at from h -/
def IJ (r : Int) (ys : List Dr) (S : DrawSt) (m : Nat) (h : Int) (zs : List D) (Γ : G) : Prop := ∃ known line s4 s5 s6 s7 s8 s9, ∃ ws : List Dr, Γ = ⟨[.val (.tup (ys.map Dr.d)), .ownd (kn known), .own (line.map .int), .val (.int h), s4, s5, s6, s7, s8, s9], S⟩ ∧ Jn r known line ∧ h ∈ known ∧ line.length + 2 * (r.toNat - known.length) ≤ m ∧ m ≤ 1000 ∧
  zs = ws.map Dr.d ∧ (∀ x ∈ ws, x ∈ ys) ∧ (∀ x ∈ ys, Cl known (h :: line) x) ∧ (∀ x ∈ ys, x ∈ ws ∨ Cl known line x)
def WJ (r : Int) (ys : List Dr) (S : DrawSt) (m : Nat) (Γ : G) : Prop := ∃ known line s3 s4 s5 s6 s7 s8 s9, Γ = ⟨[.val (.tup (ys.map Dr.d)), .ownd (kn known), .own (line.map .int), s3, s4, s5, s6, s7, s8, s9], S⟩ ∧ Jn r known line ∧ line.length + 2 * (r.toNat - known.length) ≤ m ∧ m ≤ 1000 ∧ (∀ x ∈ ys, Cl known line x)
theorem sds_ints : ∀ l : List Int, sdsB 1 (l.map .int) = true
  | [] => rfl
  | x :: xs => by
    show (sdB 1 (.int x) && sdsB 1 (xs.map .int)) = true
    rw [sds_ints xs]; rfl
theorem ne_nil (line : List Int) : neD (.lst (line.map .int)) (.lst []) = some (.bl (decide (line ≠ []))) := by
  rw [(sd_ne (n := 2) (m := 1) (a := .lst (line.map .int)) (b := .lst []) (sds_ints line) rfl).1]
  cases line <;> rfl
/-- a door looked at from one side -/
def sJ (h a b : Int) (p : List Int × List Int) : List Int × List Int := if a = h ∧ b ∉ p.1 then (p.1 ++ [b], p.2 ++ [b]) else p
def bJ (K : PySem.W.Frag) : SM := ifS (DS.andM (boolM (binM eqD (varM 8) (varM 3))) (boolM (dinP true 1 (varM 9)))) (seqS (dputM 1 (varM 9) (retM (D.bl true))) (exprS (apM 2 (varM 9)))) skipS
theorem body_ok {h a b : Int} {p : List Int × List Int} {T : D} {s4 s5 s6 s7 : DS.Slot} {Q : Fl → G → Prop} (l1 : p.1.length < 16777216) (l2 : p.2.length < 16777216)
    (hQ : Q .nx ⟨[.val T, .ownd (kn (sJ h a b p).1), .own ((sJ h a b p).2.map .int), .val (.int h), s4, s5, s6, s7, .val (.int a), .val (.int b)], S⟩) :
    wp (bJ K ⟨[.val T, .ownd (kn p.1), .own (p.2.map .int), .val (.int h), s4, s5, s6, s7, .val (.int a), .val (.int b)], S⟩) Q := by
  have kl : (kn p.1).length = p.1.length := by simp [kn]
  unfold bJ
  unfold sJ at hQ
  by_cases e1 : a = h
  · have q := dGet_kn (b := b) p.1
    have kd : keyD (.int b) = some (.inl b) := rfl
    by_cases e2 : b ∈ p.1
    · simp [e2] at q
      simp [e1, e2] at hQ
      simp [e1, kd, peekK, q]
      exact .inl hQ
    · simp [e2] at q
      simp [e1, e2] at hQ
      simp [e1, kd, peekK, q, kl, l1, l2, dPut_kn e2]
      exact hQ
  · simp [e1] at hQ ⊢
    exact hQ
theorem sJ_ok {r h a b : Int} {p : List Int × List Int} (hj : Jn r p.1 p.2) (b0 : 0 ≤ b) (b1 : b < r) : Jn r (sJ h a b p).1 (sJ h a b p).2 ∧ (∀ i ∈ p.1, i ∈ (sJ h a b p).1) ∧ (sJ h a b p).2.length + 2 * (r.toNat - (sJ h a b p).1.length) ≤ p.2.length + 2 * (r.toNat - p.1.length) ∧
    (∀ x, Cl p.1 p.2 x → Cl (sJ h a b p).1 (sJ h a b p).2 x) ∧ (∀ x, Cl p.1 (h :: p.2) x → Cl (sJ h a b p).1 (h :: (sJ h a b p).2) x) ∧ (a = h → b ∈ (sJ h a b p).1) := by
  unfold sJ
  by_cases e : a = h ∧ b ∉ p.1
  · rw [if_pos e]
    have hj' := hj.add e.2 b0 b1
    have := hj'.len
    have h2 : (p.1 ++ [b]).length = p.1.length + 1 := by simp
    refine ⟨hj', fun i hi => by simp [hi], ?_, fun x hx => hx.add e.2, fun x hx => hx.add (line := h :: p.2) e.2, fun _ => by simp⟩
    simp at *
    omega
  · rw [if_neg e]
    refine ⟨hj, fun i hi => hi, Nat.le_refl _, fun x hx => hx, fun x hx => hx, fun ha => ?_⟩
    by_cases hb : b ∈ p.1
    · exact hb
    · exact absurd ⟨ha, hb⟩ e
theorem joined_ok {r : Int} {ys : List Dr} (r1 : 1 ≤ r) (r3 : r ≤ 12) (hg : ∀ y ∈ ys, Dr.Good r y) (hl : Linked r ys) (hn : ys.length ≤ 20) :
    FOk (F_joined_rooms K [.tup (ys.map Dr.d)] S) fun d S' => S' = S ∧ ∃ known, d = .dic (kn known) ∧ Jn r known [] ∧ ∀ n : Nat, (n : Int) < r → (n : Int) ∈ known := by
  unfold F_joined_rooms m_joined_rooms
  simp [env0]
  refine wp_while (WJ r ys S) FUEL (1 + 2 * r.toNat) (by unfold FUEL; omega) ?_ fun m Γ hI => ?_
  · exact ⟨[0], [0], _, _, _, _, _, _, _, rfl, ⟨by simp, by simp; omega, by simp, by simp⟩, by simp; omega, by omega, fun x hx => ⟨fun h1 h2 => absurd h1 h2, fun h1 h2 => absurd h1 h2⟩⟩
  · obtain ⟨known, line, s3, s4, s5, s6, s7, s8, s9, rfl, hj, hm, hm0, hc⟩ := hI
    have hne : neD (.lst (line.map .int)) (.lst []) = some (.bl (decide (line ≠ []))) := ne_nil line
    simp [hne]
    by_cases e : line = []
    · subst e
      simp
      exact ⟨rfl, known, rfl, hj, all_known hj hg hl hc⟩
    · obtain ⟨l0, h, rfl⟩ : ∃ l0 h, line = l0 ++ [h] := ⟨line.dropLast, line.getLast e, (List.dropLast_concat_getLast e).symm⟩
      simp
      refine wp_for (IJ r ys S (m - 1) h) ?_ ?_ ?_
      · exact ⟨known, l0, _, _, _, _, _, _, ys, rfl, ⟨hj.nd, hj.rg, hj.z, fun i hi => hj.sub i (by simp [hi])⟩, hj.sub h (by simp), by simp at hm; omega, by omega, rfl, fun x hx => hx, fun x hx => by
          have := hc x hx
          simpa [Cl, and_comm] using this, fun x hx => .inl hx⟩
      · rintro Γ ⟨known, line, s4, s5, s6, s7, s8, s9, ws, rfl, hj, hk, hm2, hm3, e2, hs, hc1, hc2⟩
        have : ws = [] := by simpa using e2.symm
        subst this
        refine ⟨m - 1, by simp at hm; omega, known, line, _, _, _, _, _, _, _, rfl, hj, hm2, hm3, fun x hx => by simpa using hc2 x hx⟩
      · rintro d zs Γ ⟨known, line, s4, s5, s6, s7, s8, s9, ws, rfl, hj, hk, hm2, hm3, e2, hs, hc1, hc2⟩
        cases ws with
        | nil => cases e2
        | cons x ws =>
          cases e2
          refine ⟨_, rfl, ?_⟩
          have hx := hs x (by simp)
          have g := hg x hx
          have t2 : ∀ a b Γ, tgT 2 (tgCons (tgN 8) (tgCons (tgN 9) tgNil)) (.tup [.int a, .int b]) Γ = some (setV 9 (.val (.int b)) (setV 8 (.val (.int a)) Γ)) := fun a b Γ => rfl
          have j0 := hj.len
          have k1 : known.length < 16777216 := by omega
          have hb : (ifS (DS.andM (boolM (binM eqD (varM 8) (varM 3))) (boolM (dinP true 1 (varM 9)))) (seqS (dputM 1 (varM 9) (retM (D.bl true))) (exprS (apM 2 (varM 9)))) skipS) = bJ K := rfl
          rw [hb]
          simp [t2]
          refine body_ok (p := (known, line)) k1 (by show line.length < _; omega) ?_
          have q1 := sJ_ok (h := h) (a := x.p) (b := x.q) (p := (known, line)) hj g.q0 g.q1
          have l2 := q1.1.len
          refine body_ok (p := sJ h x.p x.q (known, line)) (by omega) (by have := q1.2.2.1; show _ < _; simp at this; omega) ?_
          have q2 := sJ_ok (h := h) (a := x.q) (b := x.p) (p := sJ h x.p x.q (known, line)) q1.1 g.p0 g.p1
          obtain ⟨a1, a2, a3, a4, a5, a6⟩ := q1
          obtain ⟨b1, b2, b3, b4, b5, b6⟩ := q2
          have hcx := b5 x (a5 x (hc1 x hx))
          refine ⟨_, _, _, _, _, _, _, _, ws, rfl, b1, b2 _ (a2 _ hk), ?_, hm3, rfl, fun y hy => hs y (by simp [hy]), fun y hy => b5 y (a5 y (hc1 y hy)), fun y hy => ?_⟩
          · simp at a3 b3 ⊢
            omega
          · rcases hc2 y hy with hw | hw
            · rcases List.mem_cons.mp hw with rfl | hw
              · refine .inr ⟨fun h1 h2 => ?_, fun h1 h2 => ?_⟩
                · by_cases eh : y.p = h
                  · exact b2 _ (a6 eh)
                  · exact hcx.1 h1 (by simp [eh]; exact h2)
                · by_cases eh : y.q = h
                  · exact b6 eh
                  · exact hcx.2 h1 (by simp [eh]; exact h2)
              · exact .inl hw
            · exact .inr (b4 y (a4 y hw))
end
end PR
set_option maxRecDepth 100000
set_option maxHeartbeats 2000000
namespace DS
open PySem PySem.Spec L2
theorem ok_app (a b : Str) : PyData.strOk (a ++ b) = (PyData.strOk a && PyData.strOk b) := by
  unfold PyData.strOk
  rw [PySem.Str.cps_append, Array.all_append]
theorem ok_lit (s : String) : PyData.strOk (Str.ofString s) = true := by
  unfold PyData.strOk
  rw [Str.ofString_eq_toList]
  simp
  intro c _
  have h : c.toNat < 0x110000 := by
    have v := c.valid
    unfold UInt32.isValidChar Nat.isValidChar at v
    show c.val.toNat < _
    omega
  exact h
theorem ok_join {sep : Str} (hs : PyData.strOk sep = true) : ∀ {ts : List Str}, (∀ t ∈ ts, PyData.strOk t = true) → PyData.strOk (Str.join sep ts) = true
  | [], _ => by show PyData.strOk Str.empty = true; decide +kernel
  | [x], h => h x (by simp)
  | x :: y :: r, h => by
    show PyData.strOk (x ++ sep ++ Str.join sep (y :: r)) = true
    rw [ok_app, ok_app, h x (by simp), hs, ok_join hs fun t ht => h t (by simp at ht ⊢; exact .inr ht)]
    rfl
theorem ok_from : ∀ {ts : List Str} {k : Nat} {acc : Str}, PyData.strOk acc = true → (∀ t ∈ ts, PyData.strOk t = true) → PyData.strOk (textFrom k acc ts) = true
  | [], k, acc, h, _ => h
  | t :: ts, k, acc, h, hs => by
    show PyData.strOk (textFrom (k + 1) (acc ++ (if k > 0 then ", " else "" : String) ++ t) ts) = true
    refine ok_from ?_ fun u hu => hs u (by simp [hu])
    rw [ok_app, ok_app, h, hs t (by simp)]
    split
    · rw [show PyData.strOk ((", " : String) : Str) = true from ok_lit _]; rfl
    · rw [show PyData.strOk (("" : String) : Str) = true from ok_lit _]; rfl
theorem ok_tuple {ts : List Str} (h : ∀ t ∈ ts, PyData.strOk t = true) : PyData.strOk (tupleText ts) = true := by
  unfold tupleText
  rw [ok_app, ok_app, ok_join (ok_lit _) h, show PyData.strOk ("(" : Str) = true from ok_lit _]
  split
  · rw [show PyData.strOk ((",)" : String) : Str) = true from ok_lit _]; rfl
  · rw [show PyData.strOk ((")" : String) : Str) = true from ok_lit _]; rfl
theorem ok_list {ts : List Str} (h : ∀ t ∈ ts, PyData.strOk t = true) : PyData.strOk (listText ts) = true := by
  unfold listText
  rw [ok_app, ok_from (ok_lit _) h, show PyData.strOk ("]" : Str) = true from ok_lit _]
  rfl
def bigN : Nat := 10 ^ 400
theorem lt_big {i : Nat} (h : i < 10 ^ 200) : i < bigN := Nat.lt_trans h (by decide +kernel)
mutual
/-- numbers of at most 400 digits, no texts -/
def nmB : D → Bool
  | .int i => decide (i.natAbs < bigN)
  | .tup ds | .lst ds => nmsB ds
  | .non | .bl _ => true
  | _ => false
def nmsB : List D → Bool
  | [] => true
  | d :: r => nmB d && nmsB r
end
mutual
/-- how many things there are -/
def sizeD : D → Nat
  | .tup ds | .lst ds => sizesD ds + 1
  | _ => 1
def sizesD : List D → Nat
  | [] => 0
  | d :: r => sizeD d + sizesD r
end
theorem log_lt {i : Nat} (h : i < bigN) : i.log2 < 1920 := by
  by_cases z : i = 0
  · rw [z]; decide
  · exact (Nat.log2_lt z).mpr (Nat.lt_trans h (by decide +kernel))
mutual
theorem show_ok : ∀ (d : D) (p : PyData), nmB d = true → d.pd = some p → p.showable = true ∧ PyData.strOk p.shown = true ∧ p.shown.length + 2 ≤ 405 * sizeD d
  | .non, p, _, e => by cases e; exact ⟨rfl, ok_lit "None", by decide +kernel⟩
  | .bl b, p, _, e => by cases e; cases b <;> exact ⟨rfl, by decide +kernel, by decide +kernel⟩
  | .int i, p, h, e => by
    cases e
    have h' : i.natAbs < bigN := by simpa [nmB] using h
    refine ⟨?_, ok_lit _, ?_⟩
    · have := log_lt h'
      simp only [PyData.showable, decide_eq_true_eq]
      exact this
    · have e := int_text_length_le10 (k := 400) (by decide) h'
      show (Str.ofString (toString i)).length + 2 ≤ 405 * 1
      rw [ofString_length]
      have e' : (toString i).length ≤ 401 := e
      omega
  | .tup ds, p, h, e => by
    have e' : (D.pds ds).map PyData.tuple = some p := e
    cases hp : D.pds ds with
    | none => rw [hp] at e'; cases e'
    | some ps =>
      rw [hp] at e'
      cases e'
      obtain ⟨a, b, c, l⟩ := shows_ok ds ps (by simpa [nmB] using h) hp
      refine ⟨by simp only [PyData.showable]; exact a, by simp only [PyData.shown]; exact ok_tuple b, ?_⟩
      have := tupleText_len_le (PyData.shownAll ps)
      simp only [PyData.shown]
      show _ ≤ 405 * (sizesD ds + 1)
      omega
  | .lst ds, p, h, e => by
    have e' : (D.pds ds).map PyData.list = some p := e
    cases hp : D.pds ds with
    | none => rw [hp] at e'; cases e'
    | some ps =>
      rw [hp] at e'
      cases e'
      obtain ⟨a, b, c, l⟩ := shows_ok ds ps (by simpa [nmB] using h) hp
      refine ⟨by simp only [PyData.showable]; exact a, by simp only [PyData.shown]; exact ok_list b, ?_⟩
      have := listText_len_le (PyData.shownAll ps)
      simp only [PyData.shown]
      show _ ≤ 405 * (sizesD ds + 1)
      omega
  | .str _, _, h, _ => by simp [nmB] at h
  | .dic _, _, h, _ => by simp [nmB] at h
  | .obj _ _, _, h, _ => by simp [nmB] at h
  | .exc _, _, h, _ => by simp [nmB] at h
  | .glob _, _, h, _ => by simp [nmB] at h
  | .ty _, _, h, _ => by simp [nmB] at h
  | .st, _, h, _ => by simp [nmB] at h
  | .gr, _, h, _ => by simp [nmB] at h
  | .scr _, _, h, _ => by simp [nmB] at h
theorem shows_ok : ∀ (ds : List D) (ps : List PyData), nmsB ds = true → D.pds ds = some ps → PyData.showableAll ps = true ∧ (∀ t ∈ PyData.shownAll ps, PyData.strOk t = true) ∧ ((PyData.shownAll ps).map (·.length)).sum + 2 * (PyData.shownAll ps).length ≤ 405 * sizesD ds ∧ (PyData.shownAll ps).length = ds.length
  | [], ps, _, e => by cases e; exact ⟨rfl, by simp [PyData.shownAll], by simp [PyData.shownAll, sizesD], rfl⟩
  | d :: r, ps, h, e => by
    unfold D.pds at e
    unfold nmsB at h
    rw [Bool.and_eq_true] at h
    split at e
    · rename_i p q e1 e2
      cases e
      obtain ⟨a1, b1, c1⟩ := show_ok d p h.1 e1
      obtain ⟨a2, b2, c2, l2⟩ := shows_ok r q h.2 e2
      refine ⟨by simp only [PyData.showableAll]; rw [a1, a2]; rfl, fun t ht => ?_, ?_, ?_⟩
      · unfold PyData.shownAll at ht
        rcases List.mem_cons.mp ht with rfl | ht
        · exact b1
        · exact b2 t ht
      · unfold PyData.shownAll sizesD
        simp only [List.map_cons, List.sum_cons, List.length_cons]
        omega
      · unfold PyData.shownAll
        simp [l2]
    · cases e
end
theorem str_self {s : Str} (h : PyData.strOk s = true) : neD (.str s) (.str s) = some (.bl false) ∧ eqD (.str s) (.str s) = some (.bl true) := by
  have c : SeqAt.shaped (.str s) = true := by
    unfold SeqAt.shaped
    simp [PyData.canLay0, h, PyData.depth]
  unfold neD eqD D.pd
  simp [c, PyData.eqv]
/-- repr of one value twice -/
theorem repr_same {n : Nat} {d : D} (hs : sdB n d = true) (hn : n ≤ 64) (h : nmB d = true) (hl : sizeD d ≤ 41000) (hk : d = .non ∨ (∃ ds, d = .tup ds) ∨ ∃ ds, d = .lst ds) : ∃ s, reprD [d] = some (.str s) ∧ neD (.str s) (.str s) = some (.bl false) := by
  obtain ⟨p, e, c, l⟩ := sd_pd n d hs
  obtain ⟨a, b, z⟩ := show_ok d p h e
  have sp : SeqAt.shaped p = true := by unfold SeqAt.shaped; rw [c]; simp; omega
  have sw : showP p = some (.str p.shown) := by
    unfold showP
    rw [a, sp, decide_eq_true (show p.shown.length ≤ 16777216 by omega)]
    rfl
  refine ⟨p.shown, ?_, (str_self b).1⟩
  rcases hk with rfl | ⟨ds, rfl⟩ | ⟨ds, rfl⟩
  · cases e; rfl
  · have e' : (D.pds ds).map PyData.tuple = some p := e
    cases hp : D.pds ds with
    | none => rw [hp] at e'; cases e'
    | some ps =>
      rw [hp] at e'
      cases e'
      show (match D.pds ds with | some ps => showP (.tuple ps) | none => none) = _
      rw [hp]
      exact sw
  · have e' : (D.pds ds).map PyData.list = some p := e
    cases hp : D.pds ds with
    | none => rw [hp] at e'; cases e'
    | some ps =>
      rw [hp] at e'
      cases e'
      show (match D.pds ds with | some ps => showP (.list ps) | none => none) = _
      rw [hp]
      exact sw
end DS
set_option maxRecDepth 100000
set_option maxHeartbeats 2000000
namespace DS
open PySem PySem.Spec L2
def FIOk (r : RI) (P : List (Str × D) → DrawSt → Prop) : Prop := match r with
  | .ok fs S => P fs S
  | _ => False
@[simp] theorem FIOk_ok {fs : List (Str × D)} {S : DrawSt} {P : List (Str × D) → DrawSt → Prop} : FIOk (.ok fs S) P = P fs S := rfl
theorem fiok_eq {r : RI} {fs : List (Str × D)} {S : DrawSt} (h : FIOk r fun d' S' => d' = fs ∧ S' = S) : r = .ok fs S := by
  cases r with
  | ok d' S' => obtain ⟨rfl, rfl⟩ := h; rfl
  | exc _ _ => exact h.elim
  | stuck => exact h.elim
def ownoE (n : String) : Option Slot → Option (List (Str × D))
  | some (.owno m fs) => if m = n then some fs else none
  | _ => none
@[simp] theorem ownoE_mk {n : String} {fs : List (Str × D)} : ownoE n (some (.owno n fs)) = some fs := if_pos rfl
@[simp] theorem fi_run {cls : String} {n : Nat} {f : SM} {args : List D} {S : DrawSt} {R : List (Str × D) → DrawSt → Prop} : FIOk (runI cls n f args S) R = wp (f ⟨envI cls n args, S⟩) fun fl Γ => match fl with
    | .nx => ∃ fs, ownoE cls Γ.env[0]? = some fs ∧ R fs Γ.ds
    | _ => False := by
  unfold runI
  cases h : f ⟨envI cls n args, S⟩ with
  | ok a Γ =>
    cases a with
    | nx =>
      simp only [wp_ok]
      cases h0 : Γ.env[0]? with
      | none => simp [ownoE, FIOk]
      | some s =>
        cases s with
        | owno m fs =>
          by_cases hm : m = cls
          · simp [ownoE, hm]
          · simp [ownoE, FIOk, hm]
        | _ => simp [ownoE, FIOk]
    | _ => rfl
  | exc n S => rfl
  | stuck => rfl
@[simp] theorem wp_fput {i : Nat} {n : String} {f : Str} {fv : M D} {Γ : G} {Q : Fl → G → Prop} : wp (fputM i n f fv Γ) Q = wp (fv Γ) fun v Γ1 => ∃ fs, ownoE n Γ1.env[i]? = some fs ∧ fs.length < 1000 ∧ Q .nx (setV i (.owno n (dPutF f v fs)) Γ1) := by
  unfold fputM
  rw [wp_bind]
  congr 1
  funext v Γ1
  cases h0 : Γ1.env[i]? with
  | none => simp [ownoE]
  | some s =>
    cases s with
    | owno m fs =>
      by_cases hm : m = n
      · subst hm
        by_cases hl : fs.length < 1000
        · simp [ownoE, hl]
        · simp [ownoE, hl]
      · simp [ownoE, hm]
    | _ => simp [ownoE]
@[simp] theorem wp_make {cls : String} {n : Nat} {Fm : FI} {fa : M (List D)} {Γ : G} {P : D → G → Prop} : wp (makeM cls n Fm fa Γ) P = wp (fa Γ) fun ds Γ1 => ds.length = n ∧ FIOk (Fm ds Γ1.ds) fun fs S => P (.obj cls fs) { Γ1 with ds := S } := by
  unfold makeM
  rw [wp_bind]
  congr 1
  funext ds Γ1
  split
  · rename_i h
    cases Fm ds Γ1.ds <;> simp [FIOk, h]
  · rename_i h
    simp [h]
theorem wp_caught {T : List (Addr × Str)} {L : List String} {cs : List Nat} {fe : M D} {Γ : G} {P : D → G → Prop} {n : String} {S : DrawSt} (hT : Γ.ds.T = T) (h : fe (maskG (frzAt cs Γ)) = .exc n S) (hn : n ∈ L) (q : P (.exc n) { frzAt cs Γ with ds := S }) : wp (caughtM T L cs fe Γ) P := by
  unfold caughtM
  rw [if_pos hT, h]
  show wp (if n ∈ L then _ else _) P
  rw [if_pos hn]
  exact q
theorem wp_caughtC {T : List (Addr × Str)} {L : List String} {cs : List Nat} {n : Nat} {Fm : FM} {fa : M (List D)} {Γ : G} {P : D → G → Prop} {ds : List D} {x : String} {S : DrawSt} (hT : Γ.ds.T = T)
    (ha : wp (fa (maskG (frzAt cs Γ))) fun d Γ' => d = ds ∧ Γ'.ds = Γ.ds) (hl : ds.length = n) (h : Fm ds Γ.ds = .exc x S) (hn : x ∈ L) (q : P (.exc x) { frzAt cs Γ with ds := S }) : wp (caughtM T L cs (callM n Fm fa) Γ) P := by
  refine wp_caught hT (n := x) (S := S) ?_ hn q
  unfold callM
  cases e : fa (maskG (frzAt cs Γ)) with
  | ok d Γ' =>
    rw [e] at ha
    obtain ⟨rfl, h2⟩ := ha
    show (if d.length = n then _ else _) = _
    rw [if_pos hl, h2, h]
  | exc _ _ => rw [e] at ha; exact ha.elim
  | stuck => rw [e] at ha; exact ha.elim
end DS
set_option maxRecDepth 100000
set_option maxHeartbeats 2000000
namespace PR
open PySem PySem.Spec L2 DS
section
variable {K : PySem.W.Frag} {S : DrawSt}
theorem kn_get {known : List Int} {i : Int} (h : i ∈ known) : (dGet (kn known) (.inl i)).isSome = true := by rw [dGet_kn]; simp [h]
theorem house_ok {r : Int} {ys : List Dr} (r1 : 1 ≤ r) (r3 : r ≤ 12) (hg : ∀ y ∈ ys, Dr.Good r y) (hl : Linked r ys) (hn : ys.length ≤ 20) :
    F_House K [.int r, .tup (ys.map Dr.d)] S = .ok [("rooms", .int r), ("doors", .tup (ys.map Dr.d))] S := by
  refine fiok_eq ?_
  unfold F_House m_House
  have num : F_is_number K [.int r] S = .ok (.bl true) S := is_number_eq rfl
  have ad : F_are_doors K [.tup (ys.map Dr.d), .int r] S = .ok (.bl true) S := doors_eq hg hn
  simp [envI, env0, num, ad, r1, r3]
  refine FOk.mono (joined_ok r1 r3 hg hl hn) fun d S' q => ?_
  obtain ⟨rfl, known, rfl, hj, hk⟩ := q
  have okr : okR r = true := by unfold okR; simp; omega
  simp [okr]
  refine wp_for (fun ds Γ => ∃ s4 i, 0 ≤ i ∧ ds = rangeL i r ∧ Γ = ⟨[.owno "House" [], .val (.int r), .val (.tup (ys.map Dr.d)), .val (.dic (kn known)), s4], S'⟩) ⟨_, 0, Int.le_refl _, rfl, rfl⟩ ?_ ?_
  · rintro Γ ⟨s4, i, _, _, rfl⟩
    have ne : ¬ PySem.Str.ofString "rooms" = PySem.Str.ofString "doors" := by decide +kernel
    simp [dPutF, ne]
  · rintro d rs Γ ⟨s4, i, i0, e, rfl⟩
    by_cases hi : i < r
    · rw [rangeL_cons hi] at e
      cases e
      have hm : i ∈ known := by
        have := hk i.toNat (by omega)
        rwa [show ((i.toNat : Nat) : Int) = i by omega] at this
      have kg := kn_get hm
      simp [keyD, peekK, kg]
      exact .inl ⟨_, i + 1, by omega, rfl, rfl⟩
    · rw [rangeL_nil (by omega)] at e
      cases e
end
end PR
set_option maxRecDepth 100000
set_option maxHeartbeats 4000000
namespace DS
open PySem PySem.Spec L2
theorem pe_callK0 {X : Cx} {CX : CXT} {k : Nat} {f : Addr} {fd : FuncData} {ps ks : List Str} {sp : Sp} {E : XK} {x : Str} {p pos : Pos} {kws : List Keyword} {tk : TA} {g : List Value → List Value → List Value} {gV : List V → List V → List V}
    (F : FnOk X.prog X.w X.K X.mg X.base CX k f fd ps sp) (hr : Room k X.A) (hg : Gl X x) (hm : X.mg x = some (.ref f)) (hk : PySem.W.keepIn X.K (.ref f) = true) (hb : KBn X.K fd ps 0 ks g gV) (hx : Passes CX X E) (hkw : PK X kws tk)
    (hall : (backToKw pos (keywordEach kws X.env)).all (·.1.isSome) = true := by rfl) (hks : (backToKw pos (keywordEach kws X.env)).filterMap (·.1) = ks := by rfl) (hdb : (x == ("__debug__" : Str)) = false := by decide)
    (hpl : ((backTo pos (starEach [] X.env)).any (·.1) || (backToKw pos (keywordEach kws X.env)).any (·.1.isNone)) = false := by rfl) :
    PE X (.Call (.Name x p) [] kws pos) (tCallN 0 ks.length sp gV E tNil tk) := by
  refine ⟨fun pins s σ H Q I h => ?_⟩
  refine wpAny_Call_Name_kw (ld_glob I hg hm ?_ hdb)
  refine PySem.W.callWith_KW0 (h₀ := X.base) I.ok.mod.kin hk hall ?_ hpl
  refine thn (hkw.run pos pins s σ H _ I h) fun ws s2 ⟨zs, H2, I2, rz, l1, l2, q2⟩ => ⟨I2.kIn, ?_⟩
  rw [hks]
  exact run_fnN (us := []) (vs := []) F hr hb hx I2 .nil rz rfl l2 q2
/-- called by keywords: ks in the written sequence, ix: where each parameter's value stands among them -/
def DFK (P : Program) (w : World) (K : PySem.W.Frag) (mg : Str → Option Value) (base : Heap) (x : String) (ks : List Str) (ix : List Nat) (k : Nat) (Fm : FM) : Prop :=
  ∃ (fd : FuncData) (ps : List Str), ps.length = ix.length ∧ mg (PySem.Str.ofString x) = some (.ref (ce K x)) ∧ PySem.W.keepIn K (.ref (ce K x)) = true ∧
    (∀ (s : Shared) (ws : List Value), K.In s.heap → ws.length = ks.length → BindsTo s fd ⟨[], ks.zip ws⟩ (ps.zip (ix.map fun i => ws.getD i .none))) ∧ FnOk P w K mg base (L2.CX P w) k (ce K x) fd ps (spD K ix.length Fm)
theorem vals_getD : ∀ {vs : List V} {us : List Value} (i : Nat), Vals vs us → RelV (vs.getD i .non) (us.getD i .none)
  | [], [], _, .nil => rfl
  | _ :: _, _ :: _, 0, .cons r _ => r
  | _ :: _, _ :: _, i + 1, .cons _ r => by simpa using vals_getD i r
theorem vals_perm {vs : List V} {us : List Value} (r : Vals vs us) : ∀ ix : List Nat, Vals (ix.map fun i => vs.getD i .non) (ix.map fun i => us.getD i .none)
  | [] => .nil
  | i :: ix => .cons (vals_getD i r) (vals_perm r ix)
theorem reps_getD {c : RC} {F : Hp} : ∀ {vs : List V} {ds : List D} (i : Nat), Reps c F vs ds → Rep c F (vs.getD i .non) (ds.getD i .non)
  | [], [], _, .nil => .non
  | _ :: _, _ :: _, 0, .cons r _ => r
  | _ :: _, _ :: _, i + 1, .cons _ r => by simpa using reps_getD i r
theorem reps_perm {c : RC} {F : Hp} {vs : List V} {ds : List D} (r : Reps c F vs ds) : ∀ ix : List Nat, Reps c F (ix.map fun i => vs.getD i .non) (ix.map fun i => ds.getD i .non)
  | [] => .nil
  | i :: ix => .cons (reps_getD i r) (reps_perm r ix)
def callKM (m : Nat) (ix : List Nat) (Fm : FM) (fa : M (List D)) : M D := fun Γ => (fa Γ).bind fun ds Γ1 => if ds.length = m then match Fm (ix.map fun i => ds.getD i .non) Γ1.ds with
  | .ok d S => .ok d { Γ1 with ds := S }
  | .exc x S => .exc x S
  | .stuck => .stuck
  else .stuck
section
variable {X : Cx} {E : XK} {pos kpos : Pos}
theorem sk_nil : PK X [] (aOf X.K E nilA) := ⟨fun p pins s σ H Q I h0 => by
  obtain ⟨c, g, F, Γ, hK, R, h⟩ := h0
  exact pk_nil.run p pins s σ H Q I (h [] H F R (Same.refl _) .nil)⟩
theorem sk_cons {e : Expr} {nm : Option Str} {kws : List Keyword} {fa : M D} {fr : M (List D)} (ha : PE X e (tOf X.K E fa)) (hr : PK X kws (aOf X.K E fr)) : PK X (⟨nm, e, kpos⟩ :: kws) (aOf X.K E (consA fa fr)) :=
  ⟨fun p pins s σ H Q I h0 => by
    obtain ⟨c, g, F, Γ, hK, R, h⟩ := h0
    exact (pk_cons ha hr).run p pins s σ H Q I ⟨c, g, F, Γ, hK, R, (Post.split (rel2 := relD c) h).imp fun x H1 ⟨F1, Γ1, d1, R1, s1, r1, h1⟩ =>
      ⟨c, g, F1, Γ1, hK, R1, (Post.split (rel2 := relA c) h1).imp fun xs H2 ⟨F2, Γ2, d2, R2, s2, r2, h2⟩ => h2 (x :: xs) H2 F2 R2 (Same.refl _) (.cons (Rep.mono s2 r1) r2)⟩⟩⟩
theorem se_callK {x : String} {kws : List Keyword} {ks : List Str} {ix : List Nat} {j k : Nat} {Fm : FM} {fa : M (List D)} {p : Pos} (G : DFK X.prog X.w X.K X.mg X.base x ks ix k Fm) (hr : Room j X.A) (hk : k ≤ j) (hx : Passes (L2.CX X.prog X.w) X E) (hg : Gl X (PySem.Str.ofString x)) (ha : PK X kws (aOf X.K E fa))
    (hdb : (PySem.Str.ofString x == ("__debug__" : Str)) = false := by decide) (hall : (backToKw pos (keywordEach kws X.env)).all (·.1.isSome) = true := by rfl) (hks : (backToKw pos (keywordEach kws X.env)).filterMap (·.1) = ks := by rfl)
    (hpl : ((backTo pos (starEach [] X.env)).any (·.1) || (backToKw pos (keywordEach kws X.env)).any (·.1.isNone)) = false := by rfl) :
    PE X (.Call (.Name (PySem.Str.ofString x) p) [] kws pos) (tOf X.K E (callKM ks.length ix Fm fa)) := by
  obtain ⟨fd, ps, hn, gm, kp, hb, ok⟩ := G
  have hbn : KBn X.K fd ps 0 ks (fun _ ws => ix.map fun i => ws.getD i .none) (fun _ zs => ix.map fun i => zs.getD i .non) := ⟨fun s us ws X0 l1 l2 => by
    cases List.length_eq_zero_iff.mp l1
    exact hb s ws X0 l2, fun _ r => vals_perm r ix⟩
  refine PE_imp (pe_callK0 ok (hr.mono hk) hg gm kp hbn hx ha hall hks hdb hpl) fun σ H Q ⟨c, g, F, Γ, hK, R, h⟩ => ⟨c, g, F, Γ, hK, R, (Post.split (rel2 := relA c) h).imp fun zs H1 ⟨F1, Γ1, ds, R1, s1, r1, h1⟩ => ?_⟩
  split at h1
  · rename_i hl
    refine ⟨rfl, by rw [Reps.length r1]; exact hl, ?_⟩
    refine call_use hK R1 (reps_perm r1 ix) ?_
    rw [if_pos (by simp)]
    exact h1
  · exact h1.elim
end
theorem dfk_ok {P : Program} {w : World} {K : PySem.W.Frag} {mg : Str → Option Value} {base : Heap} {x : String} {qual : Str} {params : Arguments} {body : List Stmt} {scope : Scope} {fd : FuncData} {N ps : List Str} {k : Nat} {f : SM} (ks : List Str) (ix : List Nat) (F : FunD K (PySem.Str.ofString x) qual params body scope [] [] (ce K x) fd) (S : FnScope N ps scope) (hn : ps.length = ix.length)
    (gm : mg (PySem.Str.ofString x) = some (.ref (ce K x)))
    (hb : ∀ (kV doc pm : Value) (an : Option Addr) (cdv ct : Value) (ws : List Value), ws.length = ks.length → bindArgs (PySem.W.fnOf (PySem.Str.ofString x) qual params body scope .none kV doc pm an cdv ct) ⟨[], ks.zip ws⟩ = pure (ps.zip (ix.map fun i => ws.getD i .none)))
    (hbody : ∀ (cdv : Value) (A : Around) (outer : List Env) (s : Shared) (H : Hp) (E : XK), Room k (A.deeper (PyProof.Rows.envOfC qual scope s.heap.objs.size (ce K x) cdv)) →
      PSs (cxOf (L2.CX P w) P w K mg base N qual scope (ce K x) cdv A outer s H E) body (sOf K E f)) : DFK P w K mg base x ks ix (k + 1) (runD N.length f) := by
  refine ⟨fd, ps, hn, gm, F.kp, fun s ws _ hl => ?_, F.ok S (fun vs H Q E h => ?_) fun cdv A outer s H vs Q E hr h => ⟨_, hbody cdv A outer s H E hr, ?_⟩⟩
  · obtain ⟨oc, od, dV, kV, doc, pm, an, cdv, ct, osl, rfl, lk, hcd, hD, hK⟩ := F.ex
    rcases hD with ⟨_, rfl⟩ | ⟨e, _⟩
    · exact .of_eq (hb kV doc pm an cdv ct ws hl)
    · exact absurd rfl e
  · obtain ⟨c, F, ds, S, _, hl, _, r, _⟩ := h
    rw [Reps.length r, hl, hn]
  · obtain ⟨c, F, ds, S, hK, hl, R, r, h⟩ := h
    refine ⟨c, ⟨H, F, H, none⟩, F, _, hK, R.start N r, ?_⟩
    unfold runD at h
    cases hr : f ⟨env0 N.length ds, S⟩ with
    | ok a Γ =>
      rw [hr] at h
      cases a with
      | nx => exact fun σ H' F' R' s' => h .non H' F' R'.drop s' .non
      | ret d' => exact fun σ v H' F' R' s' r' => h v H' F' R'.drop s' r'
      | bk => exact h.elim
      | ct => exact h.elim
    | exc n S => rw [hr] at h; exact fun H' F' R' s' => h H' F' R' s'
    | stuck => rw [hr] at h; exact h.elim
section
variable {X : Cx} {E : XK}
def revsM (fa : M D) : M (List D) := fun Γ => (fa Γ).bind fun d Γ1 => match d with
  | .lst ds => .ok ds.reverse Γ1
  | .tup ds => .ok ds.reverse Γ1
  | _ => .stuck
theorem rev_get {α : Type} {xs : List α} {i : Nat} {d : α} (h : xs.reverse[i]? = some d) : i < xs.length ∧ xs[xs.length - 1 - i]? = some d := by
  have hl : i < xs.reverse.length := (List.getElem?_eq_some_iff.mp h).1
  rw [List.length_reverse] at hl
  rw [List.getElem?_reverse hl] at h
  exact ⟨hl, h⟩
theorem yields_revL {c : RC} {F : Hp} {K : PySem.W.Frag} {p : Addr} {xs : List V} {ds : List D} (hp : F p = some (.lst xs)) (r : Reps c F xs ds) : Yields c F (Itv K p xs.length) ds.reverse := fun F' H s1 s2 => by
  have hH : H p = some (.lst xs) := s2 _ _ (s1 _ _ hp)
  have hl := Reps.length r
  refine ⟨by show xs.length ≤ _; rw [List.length_reverse, hl]; exact Nat.le_refl _, fun i d hd => ?_⟩
  obtain ⟨hi, hd⟩ := rev_get hd
  obtain ⟨v, hv, rv⟩ := r.get hd
  rw [← hl] at hv hi
  refine ⟨⟨hi, xs, v, .inl (.inl hH), hv⟩, fun x H' hy => ?_⟩
  obtain ⟨e, k⟩ := hy
  subst e
  have q := k xs (.inl (.inl hH))
  rw [hv] at q
  cases q
  exact .inl ⟨rfl, rv.mono s1⟩
theorem yields_revT {c : RC} {F : Hp} {K : PySem.W.Frag} {p : Addr} {xs : List V} {ds : List D} (hp : F p = some (.tup xs)) (r : Reps c F xs ds) : Yields c F (RT.ItvT K p xs.length) ds.reverse := fun F' H s1 s2 => by
  have hH : H p = some (.tup xs) := s2 _ _ (s1 _ _ hp)
  have hl := Reps.length r
  refine ⟨by show xs.length ≤ _; rw [List.length_reverse, hl]; exact Nat.le_refl _, fun i d hd => ?_⟩
  obtain ⟨hi, hd⟩ := rev_get hd
  obtain ⟨v, hv, rv⟩ := r.get hd
  rw [← hl] at hv hi
  refine ⟨⟨hi, xs, v, .inl (.inl hH), hv⟩, fun x H' hy => ?_⟩
  obtain ⟨e, k⟩ := hy
  subst e
  have q := k xs (.inl (.inl hH))
  rw [hv] at q
  cases q
  exact .inl ⟨rfl, rv.mono s1⟩
theorem si_rev {tg e : Expr} {fa : M D} {p pos : Pos} (hg : Gl X "reversed") (hm : X.mg "reversed" = none) (he : PE X e (tOf X.K E fa)) (hs : starEach [e] X.env = (false, eval e X.env) :: starEach [] X.env := by rfl) : PI X tg (.Call (.Name "reversed" p) [e] [] pos) (iOf X.K E (revsM fa)) :=
  PI_imp (RT.pi_revA hg hm he hs) fun σ H Rr ⟨c, g, F, Γ, hK, R, h⟩ => ⟨c, g, F, Γ, hK, R, (Post.split (rel2 := relD c) h).imp fun v H1 ⟨F1, Γ1, d, R1, s1, r1, h1⟩ => by
    cases d with
    | lst ds =>
      cases r1 with
      | @lst q xs _ hp r => exact ⟨q, xs, rfl, .inl ⟨by rw [← hK]; exact R1.sqL hp, h1 _ H1 F1 R1 (Same.refl _) (yields_revL hp r)⟩⟩
    | tup ds =>
      cases r1 with
      | @tup q xs _ hp r => exact ⟨q, xs, rfl, .inr ⟨by rw [← hK]; exact R1.sqT hp, h1 _ H1 F1 R1 (Same.refl _) (yields_revT hp r)⟩⟩
    | _ => exact h1.elim⟩
end
@[simp] theorem wp_revs {fa : M D} {Γ : G} {P : List D → G → Prop} : wp (revsM fa Γ) P = wp (fa Γ) fun d Γ1 => ∃ ds, (d = .lst ds ∨ d = .tup ds) ∧ P ds.reverse Γ1 := by
  unfold revsM
  rw [wp_bind]
  congr 1
  funext d Γ1
  cases d <;> simp
@[simp] theorem wp_callK {m : Nat} {ix : List Nat} {Fm : FM} {r : M (List D)} {Γ : G} {P : D → G → Prop} : wp (callKM m ix Fm r Γ) P = wp (r Γ) fun ds Γ1 => ds.length = m ∧ FOk (Fm (ix.map fun i => ds.getD i .non) Γ1.ds) fun d S => P d { Γ1 with ds := S } := by
  unfold callKM
  rw [wp_bind]
  congr 1
  funext ds Γ1
  split
  · rename_i h
    cases Fm (ix.map fun i => ds.getD i .non) Γ1.ds <;> simp [FOk, h]
  · rename_i h
    simp [h]
end DS
set_option maxRecDepth 100000
set_option maxHeartbeats 4000000
namespace DS
open PySem PySem.Spec L2
section
variable {c : RC} {g : Gh} {F H : Hp} {σ : St} {Γ : G}
/-- an object that is nobody's is written -/
theorem Rel.wr (R : Rel c g F H σ Γ) {p : Addr} {u o : HO} (hp : H p = some u) (hpl : PlO u) (n1 : p ≠ c.sa) (n2 : p ≠ c.sg) (n3 : g.no p) (n4 : F p = none) (n5 : ¬ Owned σ Γ p) : Rel c g F (upd H p o) σ Γ := by
  have hf : ∀ b u, g.has b u → b ≠ c.sa → b ≠ c.sg → (upd H p o) b = some u := fun b u e h1 h2 => by
    have hb : b ≠ p := fun z => by rw [z] at e; exact n3 _ e
    rw [upd_ne hb]; exact R.fra b u e h1 h2
  refine ⟨fun b u e => ?_, R.subF, hf, R.fz, R.len, fun i s e => ?_, R.dis, ?_, tabs_upd R.tab (fun v q => by rw [hp] at q; cases q; exact hpl), R.nt⟩
  · have hb : b ≠ p := fun z => by rw [z, n4] at e; cases e
    rw [upd_ne hb]; exact R.sub b u e
  · obtain ⟨o', e1, q⟩ := R.slot i s e
    refine ⟨o', e1, q.mono hf (Same.refl F) fun a hs eo => ?_⟩
    have ow : Owned σ Γ a := ⟨i, s, e, hs, by rw [e1, eo]⟩
    have hap : a ≠ p := fun z => n5 (z ▸ ow)
    exact ⟨upd_ne hap, (R.owned ow).2.1⟩
  · exact R.dst.keep (Same.refl F) (upd_ne n1.symm) (upd_ne n2.symm) (let ⟨_, _, _, _, h, _⟩ := R.dst; h) (let ⟨_, _, _, _, _, h, _⟩ := R.dst; h)
theorem Post.under2 {α δ γ : Type} {β : Type} {E : XK} {rel : Hp → Hp → G → β → α → Prop} {rel2 : Hp → Hp → G → γ → δ → Prop} {Q : β → Hp → Prop} {r : Res δ} {k : δ → G → Res α} {F2 : Hp} (R : Rel c g F H σ Γ) (s : Same F F2) (h : Post c g σ E rel Q F2 (r.bind k)) :
    Post c (gh2 g F H σ Γ) σ E rel2 (fun b H' => ∃ F' Γ' a, Rel c (gh2 g F H σ Γ) F' H' σ Γ' ∧ Rel c g F' H' σ Γ' ∧ Same F2 F' ∧ rel2 F' H' Γ' b a ∧ Post c g σ E rel Q F' (k a Γ')) F2 r := by
  cases r with
  | ok a Γ1 => exact fun b H2 F' R2 s2 q => ⟨F', Γ1, a, R2, R.unghost R2 (s.trans s2), s2, q, Post.mono h s2⟩
  | exc n S => exact fun H2 F' R2 s2 => h H2 F' (R.unghost R2 (s.trans s2)) s2
  | stuck => exact h
end
def oneK (fk fv : M D) : M (List (Key × D)) := fun Γ => (fk Γ).bind fun y Γ1 => (fv Γ1).bind fun v Γ2 => match keyD y with
  | some k => .ok [(k, v)] Γ2
  | none => .stuck
section
variable {X : Cx} {E : XK} {pos : Pos}
theorem sk_oneE {k v : Expr} {fk fv : M D} (hk : PE X k (tOf X.K E fk)) (hv : PE X v (tOf X.K E fv)) : PE X (.Dict [some k] [v] pos) (kOf X.K E (oneK fk fv)) :=
  PE_imp (pe_disp (pps_cons hk hv pps_nil) rfl rfl (by simp) (by simp)) fun σ H Q ⟨c, g, F, Γ, hK, R, h⟩ p hp => by
    obtain ⟨n1, n2, n3, n4, n5⟩ := R.fresh hp
    have R1 := R.lay0 (o := .dK []) hp
    have hno : (gh2 g F (upd H p (.dK [])) σ Γ).H0 p = some (.dK []) := gh2_at upd_same n5
    have has : (gh2 g F (upd H p (.dK [])) σ Γ).has p (.dK []) := ⟨.inl hno, plo_dK.1⟩
    refine ⟨c, gh2 g F (upd H p (.dK [])) σ Γ, F, Γ, hK, R1.reghost, (Post.under2 (rel2 := relD c) R1 (Same.refl F) h).imp fun x H2 ⟨F2, Γ2, d, R2', R2, s2, r2, h2⟩ => ?_⟩
    refine ⟨c, gh2 g F (upd H p (.dK [])) σ Γ, F2, Γ2, hK, R2', (Post.under2 (rel2 := relD c) R1 s2 h2).imp fun y H3 ⟨F3, Γ3, e, R3', R3, s3, r3, h3⟩ => ?_⟩
    have e3 : H3 p = some (.dK []) := R3'.fra p _ has n1 n2
    split at h3
    · rename_i kk hkk
      have ek := key_rep (Rep.mono s3 r2) hkk
      subst ek
      have no3 : ¬ Owned σ Γ3 p := fun w => by
        obtain ⟨_, _, z, _, _⟩ := R3'.owned w
        exact z _ has
      have f3 : F3 p = none := R3'.fz p _ hno plo_dK.1 n4
      refine ⟨e3, [(kk, y)], rfl, by simp, ?_⟩
      exact h3 (.ref p) _ F3 (R3.wr e3 plo_dK n1 n2 n3 f3 no3) (Same.refl _) ⟨p, [kk], [y], [e], rfl, upd_same, rfl, .cons r3 .nil, rfl, f3, n3, n1, n2, no3⟩
    · exact h3.elim
end
@[simp] theorem wp_oneK {fk fv : M D} {Γ : G} {P : List (Key × D) → G → Prop} : wp (oneK fk fv Γ) P = wp (fk Γ) fun y Γ1 => wp (fv Γ1) fun v Γ2 => ∃ k, keyD y = some k ∧ P [(k, v)] Γ2 := by
  unfold oneK
  simp only [wp_bind]
  congr 1
  funext y Γ1
  congr 1
  funext v Γ2
  cases keyD y <;> simp
@[simp] theorem wp_nox {α : Type} {r : Res α} {P : α → G → Prop} : wp (nox r) P = wp r P := by cases r <;> rfl
@[simp] theorem wp_dix {i : Nat} {fb : M D} {Γ : G} {P : D → G → Prop} : wp (dixP i fb Γ) P = ∃ k0, peekK i Γ = some k0 ∧ wp (fb Γ) fun y Γ1 => ∃ k kvs d, keyD y = some k ∧ peekK i Γ1 = some kvs ∧ dGet kvs k = some d ∧ P d Γ1 := by
  unfold dixP
  cases peekK i Γ with
  | none => simp
  | some k0 =>
    simp only [Option.some.injEq, exists_eq_left', wp_bind]
    congr 1
    funext y Γ1
    cases h1 : keyD y with
    | none => simp
    | some k =>
      cases h2 : peekK i Γ1 with
      | none => simp
      | some kvs => simp [wp_lift]
end DS
set_option maxRecDepth 100000
set_option maxHeartbeats 4000000
namespace DS
open PySem PySem.Spec L2
def gLst (K : PySem.W.Frag) (n : Nat) (t : TGs) : TG := fun v σ H Q => ∃ a xs, v = .ref a ∧ SqL K H a xs ∧ xs.length = n ∧ t xs σ H Q
theorem pg_lst {X : Cx} {pos : Pos} {es : List Expr} {k : Nat} {t : TGs} {n : Nat} (hc : X.calm = true) (h : PGs X es t)
    (hn : (assignEach es X.env).length = n := by rfl) (hst : (assignEach es X.env).findIdx? (·.1) = none := by rfl) : PG X (.Tuple es k pos) (gLst X.K n t) := by
  refine ⟨fun pins s σ H v u Q I r hw => ?_⟩
  obtain ⟨a, xs, e1, hq, hl, hw⟩ := hw
  subst e1
  cases r
  obtain ⟨its, rv, p, hz⟩ := I.list hq
  rw [PySem.arm_assign_Tuple]
  refine wpAny_bind (wpAny_standAt ?_)
  unfold unpack
  have e : (assignEach es X.env).length = its.toArray.size := by rw [hn, ← hl, rv.length]; simp
  rw [e, hst]
  refine wpAny_bind (wpAny_holding (PySem.W.kun_itemsOf (I.ok.hd hc) p.isList fun h' hx => ?_))
  have I1 : Inv X pins σ H { s with heap := h' } := I.kept (t' := s.toks) fun b o e => hx b o (Nat.ne_of_lt (Heap.lt_size e)) e
  exact h.run pins _ σ H xs _ Q I1 (by simpa using rv) hw
/-- of a tuple or a list -/
def tgTL (n : Nat) (u : TMs) : TM := fun d Γ => match d with
  | .tup ds => if ds.length = n then u ds Γ else none
  | .lst ds => if ds.length = n then u ds Γ else none
  | _ => none
theorem sg_tupL {X : Cx} {pos : Pos} {es : List Expr} {k : Nat} {u : TMs} {n : Nat} (hc : X.calm = true) (h : PGs X es (gsOf X.K u)) (hn : (assignEach es X.env).length = n := by rfl) (hst : (assignEach es X.env).findIdx? (·.1) = none := by rfl) : PG X (.Tuple es k pos) (gOf X.K (tgTL n u)) :=
  ⟨fun pins s σ H v w Q I rv ⟨c, g, F, Γ, d, hK, R, r, Γ', e, q⟩ => by
    cases r with
    | @tup a xs ds ha hr =>
      have e' : (if ds.length = n then u ds Γ else none) = some Γ' := e
      split at e'
      · rename_i hl
        exact (pg_tup hc h hn hst).run pins s σ H _ w Q I rv ⟨a, xs, rfl, .inl (.inl (R.sub _ _ ha)), by rw [Reps.length hr]; exact hl, c, g, F, Γ, ds, hK, R, hr, Γ', e', q⟩
      · cases e'
    | @lst a xs ds ha hr =>
      have e' : (if ds.length = n then u ds Γ else none) = some Γ' := e
      split at e'
      · rename_i hl
        exact (pg_lst hc h hn hst).run pins s σ H _ w Q I rv ⟨a, xs, rfl, .inl (.inl (R.sub _ _ ha)), by rw [Reps.length hr]; exact hl, c, g, F, Γ, ds, hK, R, hr, Γ', e', q⟩
      · cases e'
    | _ => cases e⟩
def zipM (fa : M (List D)) : M (List D) := fun Γ => (fa Γ).bind fun ds Γ1 => match ds with
  | [.lst xs, .lst ys] => .ok ((xs.zip ys).map fun p => .tup [p.1, p.2]) Γ1
  | [.tup xs, .tup ys] => .ok ((xs.zip ys).map fun p => .tup [p.1, p.2]) Γ1
  | _ => .stuck
def enumD (i : Nat) : List D → List D
  | [] => []
  | d :: r => .tup [.int i, d] :: enumD (i + 1) r
def enumM (fa : M (List D)) : M (List D) := fun Γ => (fa Γ).bind fun ds Γ1 => match ds with
  | [.lst xs] => .ok (enumD 0 xs) Γ1
  | _ => .stuck
@[simp] theorem wp_zip {r : M (List D)} {Γ : G} {P : List D → G → Prop} : wp (zipM r Γ) P = wp (r Γ) fun ds Γ1 => ∃ xs ys, (ds = [.lst xs, .lst ys] ∨ ds = [.tup xs, .tup ys]) ∧ P ((xs.zip ys).map fun p => .tup [p.1, p.2]) Γ1 := by
  unfold zipM
  rw [wp_bind]
  congr 1
  funext ds Γ1
  split
  · rename_i xs ys
    simp
    exact ⟨fun h => ⟨_, _, ⟨rfl, rfl⟩, h⟩, fun ⟨_, _, ⟨e1, e2⟩, h⟩ => by subst e1 e2; exact h⟩
  · rename_i xs ys
    simp
    exact ⟨fun h => ⟨_, _, ⟨rfl, rfl⟩, h⟩, fun ⟨_, _, ⟨e1, e2⟩, h⟩ => by subst e1 e2; exact h⟩
  · rename_i h1 h2
    simp
    intro xs ys h
    rcases h with h | h
    · exact absurd h (h1 xs ys)
    · exact absurd h (h2 xs ys)
@[simp] theorem wp_enum {r : M (List D)} {Γ : G} {P : List D → G → Prop} : wp (enumM r Γ) P = wp (r Γ) fun ds Γ1 => ∃ xs, ds = [.lst xs] ∧ P (enumD 0 xs) Γ1 := by
  unfold enumM
  rw [wp_bind]
  congr 1
  funext ds Γ1
  split
  · rename_i xs
    simp
  · rename_i h1
    simp
    intro xs h
    exact absurd h (h1 xs)
end DS
set_option maxRecDepth 100000
set_option maxHeartbeats 4000000
namespace PR
open PySem PySem.Spec L2 DS
abbrev N_are_numbers : List PySem.Str := ["value", "item"]
def m_are_numbers (K : PySem.W.Frag) : SM := (retS (andV (appM (isiD K) (consA (varM 0) (consA (retM (.ty "tuple")) nilA))) (appM allD (consA (lstV (lcM (List.map Prod.snd ([("item", 1)] : List (PySem.Str × Nat))) (seqM (varM 0)) (tgN 1) (retM true) (callM 1 (F_is_number K) (consA (varM 1) nilA)))) nilA))))
def F_are_numbers (K : PySem.W.Frag) : FM := runD 2 (m_are_numbers K)
abbrev N_need_room : List PySem.Str := ["house", "room"]
def m_need_room (K : PySem.W.Frag) : SM := (ifS (notM (boolM (callM 2 (F_is_below K) (consA (varM 1) (consA (fldM "House" "rooms" (varM 0)) nilA))))) (raiseS "BadRoom") skipS)
def F_need_room (K : PySem.W.Frag) : FM := runD 2 (m_need_room K)
abbrev N_is_pass : List PySem.Str := ["house", "value"]
def m_is_pass (K : PySem.W.Frag) : SM := (seqS (ifS (orM (notM (boolM (appM (isiD K) (consA (varM 1) (consA (retM (.ty "tuple")) nilA))))) (boolM (binM neD (appM lenD (consA (varM 1) nilA)) (retM (.int 2))))) (retS (retM (.bl false))) skipS)
  (retS (andV (callM 2 (F_is_below K) (consA (binM ixD (varM 1) (retM (.int 0))) (consA (appM lenD (consA (fldM "House" "doors" (varM 0)) nilA)) nilA))) (callM 2 (F_is_below K) (consA (binM ixD (varM 1) (retM (.int 1))) (consA (retM (.int 2)) nilA))))))
def F_is_pass (K : PySem.W.Frag) : FM := runD 2 (m_is_pass K)
abbrev N_gate_of : List PySem.Str := ["house", "step", "near", "first", "far", "second"]
def m_gate_of (K : PySem.W.Frag) : SM := (seqS (asgS (tgT 4 (tgCons (tgN 2) (tgCons (tgN 3) (tgCons (tgN 4) (tgCons (tgN 5) tgNil))))) (binM ixD (fldM "House" "doors" (varM 0)) (binM ixD (varM 1) (retM (.int 0)))))
  (retS (ifM (boolM (binM eqD (binM ixD (varM 1) (retM (.int 1))) (retM (.int 0)))) (tupM (consA (varM 2) (consA (varM 3) (consA (varM 4) (consA (varM 5) nilA))))) (tupM (consA (varM 4) (consA (varM 5) (consA (varM 2) (consA (varM 3) nilA))))))))
def F_gate_of (K : PySem.W.Frag) : FM := runD 6 (m_gate_of K)
abbrev N_are_steps : List PySem.Str := ["house", "room", "value", "here", "step"]
def m_are_steps (K : PySem.W.Frag) : SM := (seqS (ifS (notM (boolM (appM (isiD K) (consA (varM 2) (consA (retM (.ty "tuple")) nilA))))) (retS (retM (.bl false))) skipS)
  (seqS (setS 3 (varM 1))
  (seqS (forM' (seqM (varM 2)) (tgN 4) (seqS (ifS (orM (notM (boolM (callM 2 (F_is_pass K) (consA (varM 0) (consA (varM 4) nilA))))) (boolM (binM neD (binM ixD (callM 2 (F_gate_of K) (consA (varM 0) (consA (varM 4) nilA))) (retM (.int 0))) (varM 3)))) (retS (retM (.bl false))) skipS)
  (setS 3 (binM ixD (callM 2 (F_gate_of K) (consA (varM 0) (consA (varM 4) nilA))) (retM (.int 2))))))
  (retS (retM (.bl true))))))
def F_are_steps (K : PySem.W.Frag) : FM := runD 5 (m_are_steps K)
abbrev N_is_walk_of : List PySem.Str := ["house", "value", "room", "pulls", "passes"]
def m_is_walk_of (K : PySem.W.Frag) : SM := (seqS (ifS (orM (notM (boolM (appM (isiD K) (consA (varM 1) (consA (retM (.ty "tuple")) nilA))))) (orM (boolM (binM neD (appM lenD (consA (varM 1) nilA)) (retM (.int 3)))) (notM (boolM (callM 2 (F_is_below K) (consA (binM ixD (varM 1) (retM (.int 0))) (consA (fldM "House" "rooms" (varM 0)) nilA))))))) (retS (retM (.bl false))) skipS)
  (seqS (asgS (tgT 3 (tgCons (tgN 2) (tgCons (tgN 3) (tgCons (tgN 4) tgNil)))) (varM 1))
  (retS (andV (callM 1 (F_are_numbers K) (consA (varM 3) nilA)) (andV (callM 3 (F_are_steps K) (consA (varM 0) (consA (varM 2) (consA (varM 4) nilA)))) (binM eqD (appM lenD (consA (varM 3) nilA)) (binM addD (appM lenD (consA (varM 4) nilA)) (retM (.int 1)))))))))
def F_is_walk_of (K : PySem.W.Frag) : FM := runD 5 (m_is_walk_of K)
abbrev N_need_walk : List PySem.Str := ["house", "walk"]
def m_need_walk (K : PySem.W.Frag) : SM := (ifS (notM (boolM (callM 2 (F_is_walk_of K) (consA (varM 0) (consA (varM 1) nilA))))) (raiseS "BadWalk") skipS)
def F_need_walk (K : PySem.W.Frag) : FM := runD 2 (m_need_walk K)
abbrev N_end_for : List PySem.Str := ["house", "walk"]
def m_end_for (K : PySem.W.Frag) : SM := (retS (ifM (boolM (binM neD (binM ixD (varM 1) (retM (.int 2))) (tupM nilA))) (binM ixD (callM 2 (F_gate_of K) (consA (varM 0) (consA (binM ixD (binM ixD (varM 1) (retM (.int 2))) (negM (retM (.int 1)))) nilA))) (retM (.int 2))) (binM ixD (varM 1) (retM (.int 0)))))
def F_end_for (K : PySem.W.Frag) : FM := runD 2 (m_end_for K)
abbrev N_need_home : List PySem.Str := ["house", "walk"]
def m_need_home (K : PySem.W.Frag) : SM := (seqS (exprS (callM 2 (F_need_walk K) (consA (varM 0) (consA (varM 1) nilA))))
  (ifS (boolM (binM neD (callM 2 (F_end_for K) (consA (varM 0) (consA (varM 1) nilA))) (binM ixD (varM 1) (retM (.int 0))))) (raiseS "NotHome") skipS))
def F_need_home (K : PySem.W.Frag) : FM := runD 2 (m_need_home K)
abbrev N_join_of : List PySem.Str := ["one", "other", "middle"]
def m_join_of (K : PySem.W.Frag) : SM := (seqS (setS 2 (binM addD (binM ixD (binM ixD (varM 0) (retM (.int 1))) (negM (retM (.int 1)))) (binM ixD (binM ixD (varM 1) (retM (.int 1))) (retM (.int 0)))))
  (retS (tupM (consA (binM ixD (varM 0) (retM (.int 0))) (consA (binM addD (binM addD (sliceM (binM ixD (varM 0) (retM (.int 1))) (retM none) (partM (negM (retM (.int 1))))) (tupM (consA (varM 2) nilA))) (sliceM (binM ixD (varM 1) (retM (.int 1))) (partM (retM (.int 1))) (retM none))) (consA (binM addD (binM ixD (varM 0) (retM (.int 2))) (binM ixD (varM 1) (retM (.int 2)))) nilA))))))
def F_join_of (K : PySem.W.Frag) : FM := runD 3 (m_join_of K)
abbrev N_back_of : List PySem.Str := ["house", "walk", "pulls", "passes", "item", "at", "side"]
def m_back_of (K : PySem.W.Frag) : SM := (seqS (setS 2 (appM tupleD (consA (lstV (lcM (List.map Prod.snd ([("item", 4)] : List (PySem.Str × Nat))) (revsM (binM ixD (varM 1) (retM (.int 1)))) (tgN 4) (retM true) (binM subD (retM (.int 0)) (varM 4)))) nilA)))
  (seqS (setS 3 (appM tupleD (consA (lstV (lcM (List.map Prod.snd ([("at", 5), ("side", 6)] : List (PySem.Str × Nat))) (revsM (binM ixD (varM 1) (retM (.int 2)))) (tgT 2 (tgCons (tgN 5) (tgCons (tgN 6) tgNil))) (retM true) (tupM (consA (varM 5) (consA (binM subD (retM (.int 1)) (varM 6)) nilA))))) nilA)))
  (retS (tupM (consA (callM 2 (F_end_for K) (consA (varM 0) (consA (varM 1) nilA))) (consA (varM 2) (consA (varM 3) nilA)))))))
def F_back_of (K : PySem.W.Frag) : FM := runD 7 (m_back_of K)
abbrev N_standing_in : List PySem.Str := ["room"]
def m_standing_in (K : PySem.W.Frag) : SM := (retS (tupM (consA (varM 0) (consA (tupM (consA (retM (.int 0)) nilA)) (consA (tupM nilA) nilA)))))
def F_standing_in (K : PySem.W.Frag) : FM := runD 1 (m_standing_in K)
abbrev N_joined : List PySem.Str := ["house", "one", "other"]
def m_joined (K : PySem.W.Frag) : SM := (seqS (exprS (callM 1 (F_need_house K) (consA (varM 0) nilA)))
  (seqS (exprS (callM 2 (F_need_walk K) (consA (varM 0) (consA (varM 1) nilA))))
  (seqS (exprS (callM 2 (F_need_walk K) (consA (varM 0) (consA (varM 2) nilA))))
  (seqS (ifS (boolM (binM neD (binM ixD (varM 2) (retM (.int 0))) (callM 2 (F_end_for K) (consA (varM 0) (consA (varM 1) nilA))))) (raiseS "Elsewhere") skipS)
  (retS (callM 2 (F_join_of K) (consA (varM 1) (consA (varM 2) nilA))))))))
def F_joined (K : PySem.W.Frag) : FM := runD 3 (m_joined K)
abbrev N_back : List PySem.Str := ["house", "walk"]
def m_back (K : PySem.W.Frag) : SM := (seqS (exprS (callM 1 (F_need_house K) (consA (varM 0) nilA)))
  (seqS (exprS (callM 2 (F_need_walk K) (consA (varM 0) (consA (varM 1) nilA))))
  (retS (callM 2 (F_back_of K) (consA (varM 0) (consA (varM 1) nilA))))))
def F_back (K : PySem.W.Frag) : FM := runD 2 (m_back K)
abbrev N_standing : List PySem.Str := ["house", "room"]
def m_standing (K : PySem.W.Frag) : SM := (seqS (exprS (callM 1 (F_need_house K) (consA (varM 0) nilA)))
  (seqS (exprS (callM 2 (F_need_room K) (consA (varM 0) (consA (varM 1) nilA))))
  (retS (callM 1 (F_standing_in K) (consA (varM 1) nilA)))))
def F_standing (K : PySem.W.Frag) : FM := runD 2 (m_standing K)
abbrev N_power : List PySem.Str := ["house", "walk", "times", "one", "found", "lap"]
def m_power (K : PySem.W.Frag) : SM := (seqS (exprS (callM 1 (F_need_house K) (consA (varM 0) nilA)))
  (seqS (exprS (callM 2 (F_need_home K) (consA (varM 0) (consA (varM 1) nilA))))
  (seqS (ifS (orM (notM (boolM (callM 1 (F_is_number K) (consA (varM 2) nilA)))) (notM (boolM (chainM leD leD (negM (retM (.int 9))) (varM 2) (retM (.int 9)))))) (raiseS "BadTimes") skipS)
  (seqS (setS 3 (ifM (boolM (binM gtD (varM 2) (retM (.int 0)))) (varM 1) (callM 2 (F_back_of K) (consA (varM 0) (consA (varM 1) nilA)))))
  (seqS (setS 4 (callM 1 (F_standing_in K) (consA (binM ixD (varM 1) (retM (.int 0))) nilA)))
  (seqS (forM' (range1M (consA (appM absD (consA (varM 2) nilA)) nilA)) (tgN 5) (setS 4 (callM 2 (F_join_of K) (consA (varM 4) (consA (varM 3) nilA)))))
  (retS (varM 4))))))))
def F_power (K : PySem.W.Frag) : FM := runD 6 (m_power K)
abbrev N__law_rc_gate : List PySem.Str := ["doors", "step", "near", "first", "far", "second"]
def m__law_rc_gate (K : PySem.W.Frag) : SM := (seqS (asgS (tgT 4 (tgCons (tgN 2) (tgCons (tgN 3) (tgCons (tgN 4) (tgCons (tgN 5) tgNil))))) (binM ixD (varM 0) (binM ixD (varM 1) (retM (.int 0)))))
  (retS (ifM (boolM (binM eqD (binM ixD (varM 1) (retM (.int 1))) (retM (.int 0)))) (tupM (consA (varM 2) (consA (varM 3) (consA (varM 4) (consA (varM 5) nilA))))) (tupM (consA (varM 4) (consA (varM 5) (consA (varM 2) (consA (varM 3) nilA))))))))
@[irreducible] def F__law_rc_gate (K : PySem.W.Frag) : FM := runD 6 (m__law_rc_gate K)
abbrev N__law_rc_from : List PySem.Str := ["doors", "room", "found", "door", "side"]
def m__law_rc_from (K : PySem.W.Frag) : SM := (seqS (setS 2 (lstV (lstM nilA)))
  (seqS (forM' (range1M (consA (appM lenD (consA (varM 0) nilA)) nilA)) (tgN 3) (setS 2 (binM addD (varM 2) (lstV (lcM (List.map Prod.snd ([("side", 4)] : List (PySem.Str × Nat))) (seqM (lstV (lstM (consA (retM (.int 0)) (consA (retM (.int 1)) nilA))))) (tgN 4) (boolM (binM eqD (binM ixD (callM 2 (F__law_rc_gate K) (consA (varM 0) (consA (tupM (consA (varM 3) (consA (varM 4) nilA))) nilA))) (retM (.int 0))) (varM 1))) (tupM (consA (varM 3) (consA (varM 4) nilA))))))))
  (retS (varM 2))))
@[irreducible] def F__law_rc_from (K : PySem.W.Frag) : FM := runD 5 (m__law_rc_from K)
abbrev N__law_rc_turned : List PySem.Str := ["step"]
def m__law_rc_turned (K : PySem.W.Frag) : SM := (retS (tupM (consA (binM ixD (varM 0) (retM (.int 0))) (consA (binM subD (retM (.int 1)) (binM ixD (varM 0) (retM (.int 1)))) nilA))))
@[irreducible] def F__law_rc_turned (K : PySem.W.Frag) : FM := runD 1 (m__law_rc_turned K)
abbrev N__law_rc_end : List PySem.Str := ["doors", "walk"]
def m__law_rc_end (K : PySem.W.Frag) : SM := (retS (ifM (boolM (binM neD (binM ixD (varM 1) (retM (.int 2))) (tupM nilA))) (binM ixD (callM 2 (F__law_rc_gate K) (consA (varM 0) (consA (binM ixD (binM ixD (varM 1) (retM (.int 2))) (negM (retM (.int 1)))) nilA))) (retM (.int 2))) (binM ixD (varM 1) (retM (.int 0)))))
@[irreducible] def F__law_rc_end (K : PySem.W.Frag) : FM := runD 2 (m__law_rc_end K)
abbrev N__law_rc_pulls : List PySem.Str := ["state"]
def m__law_rc_pulls (K : PySem.W.Frag) : SM := (retS (callM 2 (F__law_pick K) (consA (varM 0) (consA (lstV (lstM (consA (retM (.int 0)) (consA (retM (.int 0)) (consA (retM (.int 1)) (consA (negM (retM (.int 1))) (consA (retM (.int 2)) (consA (retM (.int 3)) (consA (retM (.int 4)) (consA (retM (.int 6)) (consA (negM (retM (.int 6))) (consA (retM (.int 12)) (consA (retM (.int 5)) (consA (retM (.int 24)) nilA)))))))))))))) nilA))))
@[irreducible] def F__law_rc_pulls (K : PySem.W.Frag) : FM := runD 1 (m__law_rc_pulls K)
abbrev N__law_rc_walk : List PySem.Str := ["state", "doors", "room", "many", "passes", "here", "lap", "some", "step"]
def m__law_rc_walk (K : PySem.W.Frag) : SM := (seqS (parS [4, 5] (consR .l (lstM nilA) (consR .v (varM 2) nilR)))
  (seqS (forM' (range1M (consA (varM 3) nilA)) (tgN 6) (seqS (setS 7 (callM 2 (F__law_rc_from K) (consA (varM 1) (consA (varM 5) nilA))))
  (seqS (ifS (boolM (binM eqD (varM 7) (lstV (lstM nilA)))) brkS skipS)
  (seqS (setS 8 (ifM (andM (boolM (cmpP neD 4 (lstV (lstM nilA)))) (boolM (binM eqD (callM 2 (F__law_draw K) (consA (varM 0) (consA (retM (.int 3)) nilA))) (retM (.int 0))))) (callM 1 (F__law_rc_turned K) (consA (ixP 4 (negM (retM (.int 1)))) nilA)) (callM 2 (F__law_pick K) (consA (varM 0) (consA (varM 7) nilA)))))
  (seqS (exprS (apM 4 (varM 8)))
  (setS 5 (binM ixD (callM 2 (F__law_rc_gate K) (consA (varM 1) (consA (varM 8) nilA))) (retM (.int 2)))))))))
  (retS (tupM (consA (varM 2) (consA (appM tupleD (consA (lstV (lcM (List.map Prod.snd ([("lap", 6)] : List (PySem.Str × Nat))) (range1M (consA (binM addD (lenP 4) (retM (.int 1))) nilA)) (tgN 6) (retM true) (callM 1 (F__law_rc_pulls K) (consA (varM 0) nilA)))) nilA)) (consA (appM tupleD (consA (varM 4) nilA)) nilA)))))))
@[irreducible] def F__law_rc_walk (K : PySem.W.Frag) : FM := runD 9 (m__law_rc_walk K)
abbrev N__law_rc_road : List PySem.Str := ["rooms", "doors", "room", "there", "ways", "line", "lap", "here", "step", "after"]
def m__law_rc_road (K : PySem.W.Frag) : SM := (seqS (parS [4, 5] (consR .k (oneK (varM 2) (tupM nilA)) (consR .l (lstM (consA (varM 2) nilA)) nilR)))
  (seqS (forM' (range1M (consA (varM 0) nilA)) (tgN 6) (seqS (ifS (boolM (cmpP eqD 5 (lstV (lstM nilA)))) brkS skipS)
  (seqS (setS 7 (popAtM 5 (retM (.int 0))))
  (forM' (seqM (callM 2 (F__law_rc_from K) (consA (varM 1) (consA (varM 7) nilA)))) (tgN 8) (seqS (setS 9 (binM ixD (callM 2 (F__law_rc_gate K) (consA (varM 1) (consA (varM 8) nilA))) (retM (.int 2))))
  (ifS (boolM (dinP true 4 (varM 9))) (seqS (dputM 4 (varM 9) (binM addD (dixP 4 (varM 7)) (tupM (consA (varM 8) nilA))))
  (exprS (apM 5 (varM 9)))) skipS))))))
  (retS (dixP 4 (varM 3)))))
@[irreducible] def F__law_rc_road (K : PySem.W.Frag) : FM := runD 10 (m__law_rc_road K)
abbrev N__law_rc_home : List PySem.Str := ["state", "told", "room", "many", "rooms", "doors", "walk", "road", "step"]
def m__law_rc_home (K : PySem.W.Frag) : SM := (seqS (asgS (tgT 2 (tgCons (tgN 4) (tgCons (tgN 5) tgNil))) (varM 1))
  (seqS (setS 6 (callM 4 (F__law_rc_walk K) (consA (varM 0) (consA (varM 5) (consA (varM 2) (consA (varM 3) nilA))))))
  (seqS (setS 7 (callM 4 (F__law_rc_road K) (consA (varM 4) (consA (varM 5) (consA (callM 2 (F__law_rc_end K) (consA (varM 5) (consA (varM 6) nilA))) (consA (varM 2) nilA))))))
  (retS (tupM (consA (varM 2) (consA (binM addD (binM ixD (varM 6) (retM (.int 1))) (appM tupleD (consA (lstV (lcM (List.map Prod.snd ([("step", 8)] : List (PySem.Str × Nat))) (seqM (varM 7)) (tgN 8) (retM true) (callM 1 (F__law_rc_pulls K) (consA (varM 0) nilA)))) nilA))) (consA (binM addD (binM ixD (varM 6) (retM (.int 2))) (varM 7)) nilA))))))))
@[irreducible] def F__law_rc_home (K : PySem.W.Frag) : FM := runD 9 (m__law_rc_home K)
abbrev N__law_rc_joined : List PySem.Str := ["one", "other"]
def m__law_rc_joined (K : PySem.W.Frag) : SM := (retS (tupM (consA (binM ixD (varM 0) (retM (.int 0))) (consA (binM addD (binM addD (sliceM (binM ixD (varM 0) (retM (.int 1))) (retM none) (partM (negM (retM (.int 1))))) (tupM (consA (binM addD (binM ixD (binM ixD (varM 0) (retM (.int 1))) (negM (retM (.int 1)))) (binM ixD (binM ixD (varM 1) (retM (.int 1))) (retM (.int 0)))) nilA))) (sliceM (binM ixD (varM 1) (retM (.int 1))) (partM (retM (.int 1))) (retM none))) (consA (binM addD (binM ixD (varM 0) (retM (.int 2))) (binM ixD (varM 1) (retM (.int 2)))) nilA)))))
@[irreducible] def F__law_rc_joined (K : PySem.W.Frag) : FM := runD 2 (m__law_rc_joined K)
abbrev N__law_rc_backward : List PySem.Str := ["doors", "walk", "x", "step"]
def m__law_rc_backward (K : PySem.W.Frag) : SM := (retS (tupM (consA (callM 2 (F__law_rc_end K) (consA (varM 0) (consA (varM 1) nilA))) (consA (appM tupleD (consA (revM (lstV (lcM (List.map Prod.snd ([("x", 2)] : List (PySem.Str × Nat))) (seqM (binM ixD (varM 1) (retM (.int 1)))) (tgN 2) (retM true) (binM subD (retM (.int 0)) (varM 2))))) nilA)) (consA (appM tupleD (consA (revM (lstV (lcM (List.map Prod.snd ([("step", 3)] : List (PySem.Str × Nat))) (seqM (binM ixD (varM 1) (retM (.int 2)))) (tgN 3) (retM true) (callM 1 (F__law_rc_turned K) (consA (varM 3) nilA))))) nilA)) nilA)))))
@[irreducible] def F__law_rc_backward (K : PySem.W.Frag) : FM := runD 4 (m__law_rc_backward K)
abbrev N__law_k01_power : List PySem.Str := ["doors", "walk", "times", "one", "found", "lap"]
def m__law_k01_power (K : PySem.W.Frag) : SM := (seqS (parS [3, 4] (consR .v (ifM (boolM (binM gtD (varM 2) (retM (.int 0)))) (varM 1) (callM 2 (F__law_rc_backward K) (consA (varM 0) (consA (varM 1) nilA)))) (consR .v (tupM (consA (binM ixD (varM 1) (retM (.int 0))) (consA (tupM (consA (retM (.int 0)) nilA)) (consA (tupM nilA) nilA)))) nilR)))
  (seqS (forM' (range1M (consA (appM absD (consA (varM 2) nilA)) nilA)) (tgN 5) (setS 4 (ifM (boolM (binM eqD (varM 5) (retM (.int 0)))) (varM 3) (callM 2 (F__law_rc_joined K) (consA (varM 4) (consA (varM 3) nilA))))))
  (retS (varM 4))))
@[irreducible] def F__law_k01_power (K : PySem.W.Frag) : FM := runD 6 (m__law_k01_power K)
end PR
set_option maxRecDepth 100000
set_option maxHeartbeats 4000000
namespace DS
open PySem PySem.Spec L2
def lputM (i : Nat) (fk fv : M D) : SM := fun Γ => (fv Γ).bind fun v Γ1 => match Γ1.env[i]? with
  | some (.own _) => (fk Γ1).bind fun y Γ2 => match y, Γ2.env[i]? with
    | .int k, some (.own ds) => (match ixN ds.length k with
      | some j => .ok .nx (setV i (.own (ds.set j v)) Γ2)
      | none => .stuck)
    | _, _ => .stuck
  | _ => .stuck
@[simp] theorem wp_lput {i : Nat} {fk fv : M D} {Γ : G} {Q : Fl → G → Prop} : wp (lputM i fk fv Γ) Q = wp (fv Γ) fun v Γ1 => ∃ ds0, ownE Γ1.env[i]? = some ds0 ∧ wp (fk Γ1) fun y Γ2 => ∃ k ds j, y = .int k ∧ ownE Γ2.env[i]? = some ds ∧ ixN ds.length k = some j ∧ Q .nx (setV i (.own (ds.set j v)) Γ2) := by
  unfold lputM
  rw [wp_bind]
  congr 1
  funext v Γ1
  cases h : Γ1.env[i]? with
  | none => simp [ownE]
  | some s =>
    cases s with
    | own ds0 =>
      simp only [ownE_own, Option.some.injEq, exists_eq_left', wp_bind]
      congr 1
      funext y Γ2
      cases y with
      | int k =>
        cases h2 : Γ2.env[i]? with
        | none => simp [ownE]
        | some s1 =>
          cases s1 with
          | own ds =>
            cases h3 : ixN ds.length k with
            | none => simp [h3]
            | some j => simp [h3]
          | _ => simp [ownE]
      | _ => simp
    | _ => simp [ownE]
end DS
set_option maxRecDepth 100000
set_option maxHeartbeats 4000000
namespace PR
open PySem PySem.Spec L2 DS
end PR
set_option maxRecDepth 100000
set_option maxHeartbeats 2000000
namespace PR
open PySem PySem.Spec L2 DS
theorem atI_nat {ds : List D} {i : Nat} (h : i < ds.length) : atI ds (i : Int) = some ds[i] := by
  unfold atI ixN
  rw [if_pos (by omega), if_pos (by omega)]
  show ds[((i : Int)).toNat]? = _
  simp [h]
theorem atI_last {ds : List D} (h : ds ≠ []) : atI ds (-1) = some (ds.getLast h) := by
  have hl : 0 < ds.length := List.length_pos_iff.mpr h
  unfold atI ixN
  rw [if_neg (by omega), if_pos (by omega)]
  show ds[((-1 : Int) + ds.length).toNat]? = _
  rw [show ((-1 : Int) + ds.length).toNat = ds.length - 1 by omega, List.getLast_eq_getElem]
  simp [hl]
structure Pz where
  i : Nat
  s : Bool
def sI (b : Bool) : Int := if b then 1 else 0
def Pz.d (p : Pz) : D := .tup [.int p.i, .int (sI p.s)]
def Pz.back (p : Pz) : Pz := ⟨p.i, !p.s⟩
@[simp] theorem Pz.back_back (p : Pz) : p.back.back = p := by cases p; simp [Pz.back]
@[simp] theorem Pz.back_i (p : Pz) : p.back.i = p.i := rfl
def Dr.flip (x : Dr) : Dr := ⟨x.q, x.b, x.p, x.a⟩
def dr0 : Dr := ⟨0, 1, 0, 1⟩
def gateR (ys : List Dr) (p : Pz) : Dr := if p.s then (ys.getD p.i dr0).flip else ys.getD p.i dr0
theorem gate_back (ys : List Dr) (p : Pz) : gateR ys p.back = (gateR ys p).flip := by
  unfold gateR Pz.back
  cases p.s <;> rfl
theorem Dr.Good.flip {r : Int} {x : Dr} (g : x.Good r) : x.flip.Good r := ⟨g.q0, g.q1, g.p0, g.p1, g.b0, g.b1, g.a0, g.a1⟩
theorem gate_good {r : Int} {ys : List Dr} (hg : ∀ y ∈ ys, Dr.Good r y) {p : Pz} (h : p.i < ys.length) : (gateR ys p).Good r := by
  have e : ys.getD p.i dr0 = ys[p.i] := by simp [h]
  unfold gateR
  rw [e]
  have := hg _ (List.getElem_mem h)
  split
  · exact this.flip
  · exact this
section
variable {K : PySem.W.Frag} {S : DrawSt} {r : Int} {ys : List Dr}
abbrev dsD (ys : List Dr) : D := .tup (ys.map Dr.d)
theorem ix_door {p : Pz} (h : p.i < ys.length) : ixD (dsD ys) (.int p.i) = some (ys.getD p.i dr0).d := by
  show atI (ys.map Dr.d) (p.i : Int) = _
  rw [atI_nat (by rw [List.length_map]; exact h)]
  simp [h]
theorem ix_p0 (p : Pz) : ixD p.d (.int 0) = some (.int p.i) := rfl
theorem ix_p1 (p : Pz) : ixD p.d (.int 1) = some (.int (sI p.s)) := rfl
theorem tg4 (x : Dr) (Γ : G) : tgT 4 (tgCons (tgN 2) (tgCons (tgN 3) (tgCons (tgN 4) (tgCons (tgN 5) tgNil)))) x.d Γ = some (setV 5 (.val (.int x.b)) (setV 4 (.val (.int x.q)) (setV 3 (.val (.int x.a)) (setV 2 (.val (.int x.p)) Γ)))) := rfl
theorem sI_zero (b : Bool) : (sI b = 0) = (b = false) := by cases b <;> simp [sI]
theorem fld_doors {ds : D} : fldD "House" "doors" (houseD r ds) = some ds := rfl
theorem rc_gate_eq {p : Pz} (h : p.i < ys.length) : F__law_rc_gate K [dsD ys, p.d] S = .ok (gateR ys p).d S := by
  refine fok_eq ?_
  unfold F__law_rc_gate m__law_rc_gate
  have e := ix_door (p := p) h
  simp only [dsD] at e
  simp [env0, ix_p0, ix_p1, e, tg4, sI_zero]
  unfold gateR
  cases p.s <;> simp [Dr.d, Dr.flip]
theorem gate_eq {p : Pz} (h : p.i < ys.length) : F_gate_of K [houseD r (dsD ys), p.d] S = .ok (gateR ys p).d S := by
  refine fok_eq ?_
  unfold F_gate_of m_gate_of
  have e := ix_door (p := p) h
  simp only [dsD] at e
  simp [env0, fld_doors, ix_p0, ix_p1, e, tg4, sI_zero]
  unfold gateR
  cases p.s <;> simp [Dr.d, Dr.flip]
theorem ix_g0 (x : Dr) : ixD x.d (.int 0) = some (.int x.p) := rfl
theorem ix_g2 (x : Dr) : ixD x.d (.int 2) = some (.int x.q) := rfl
theorem turned_eq (p : Pz) : F__law_rc_turned K [p.d] S = .ok p.back.d S := by
  refine fok_eq ?_
  unfold F__law_rc_turned m__law_rc_turned
  simp [env0, ix_p0, ix_p1, Pz.d, Pz.back]
  cases p.s <;> simp [sI]
def passOk (n : Nat) : D → Bool
  | .tup [a, b] => below a n && below b 2
  | _ => false
def unP : D → Pz
  | .tup [.int i, .int s] => ⟨i.toNat, s == 1⟩
  | _ => ⟨0, false⟩
theorem below_inv {d : D} {n : Int} (h : below d n = true) : ∃ i : Int, d = .int i ∧ 0 ≤ i ∧ i < n := by
  cases d <;> simp [below] at h
  exact ⟨_, rfl, h.1, h.2⟩
theorem passOk_inv {n : Nat} {d : D} (h : passOk n d = true) : d = (unP d).d ∧ (unP d).i < n := by
  unfold passOk at h
  split at h
  · rename_i a b
    rw [Bool.and_eq_true] at h
    obtain ⟨i, rfl, i0, i1⟩ := below_inv h.1
    obtain ⟨s, rfl, s0, s1⟩ := below_inv h.2
    have hs : s = 0 ∨ s = 1 := by omega
    unfold unP Pz.d sI
    rcases hs with rfl | rfl
    · exact ⟨by simp; omega, by show i.toNat < n; omega⟩
    · exact ⟨by simp; omega, by show i.toNat < n; omega⟩
  · cases h
theorem passOk_d {n : Nat} {p : Pz} (h : p.i < n) : passOk n p.d = true := by
  unfold passOk Pz.d
  simp [below, sI, h]
  cases p.s <;> simp
@[simp] theorem unP_d (p : Pz) : unP p.d = p := by
  obtain ⟨i, s⟩ := p
  cases s <;> simp [unP, Pz.d, sI]
theorem is_pass_eq {v : D} (h : Pd v = true) : F_is_pass K [houseD r (dsD ys), v] S = .ok (.bl (passOk ys.length v)) S := by
  refine fok_eq ?_
  unfold F_is_pass m_is_pass
  simp [env0, isi_tup (Pd.pl h), fld_doors]
  cases v with
  | tup xs =>
    simp [isTupB]
    match xs, h with
    | [], _ => simp [passOk]
    | [a], _ => simp [passOk]
    | [a, b], h =>
      simp [Pd, Pds] at h
      simp [is_below_eq (Pd.pl h.1), is_below_eq (Pd.pl h.2), passOk]
      cases hb : below a ys.length with
      | false => simp
      | true => simp
    | a :: b :: c :: rest, _ =>
      have : ¬ ((rest.length : Int) + 1 + 1 + 1 = 2) := by omega
      simp [passOk, this]
  | _ => first | (simp [Pd] at h; done) | simp [isTupB, passOk]
def numsD : D → Bool
  | .tup ds => ds.all isWhole
  | _ => false
theorem are_numbers_eq {v : D} (h : Pd v = true) (hl : ∀ ds, v = .tup ds → ds.length ≤ 16777216) : F_are_numbers K [v] S = .ok (.bl (numsD v)) S := by
  refine fok_eq ?_
  unfold F_are_numbers m_are_numbers
  simp [env0, isi_tup (Pd.pl h)]
  cases v with
  | tup xs =>
    have row := lc_pure (vs := [1]) (tg := tgN 1) (tt := retM true) (te := (callM 1 (F_is_number K) (consA (varM 1) nilA))) (Γw := ⟨[.val (.tup xs), .un], S⟩) (fun _ => true) (fun d => .bl (isWhole d)) (ds := xs) (acc := []) (fun d hd => by
      refine ⟨_, rfl, rfl, fun _ => res_eq ?_, rfl⟩
      simp [is_number_eq (Pd.pl (Pds_all.mp (show Pds xs = true from h) d hd))]) (by simpa using hl xs rfl)
    rw [List.filter_eq_self.mpr (by simp)] at row
    simp [isTupB, wipeG, wipeE, row, numsD, allD_map]
  | _ => first | (simp [Pd] at h; done) | simp [isTupB, numsD]
def stepsOk (ys : List Dr) : Int → List D → Bool
  | _, [] => true
  | h, d :: ds => passOk ys.length d && (decide ((gateR ys (unP d)).p = h) && stepsOk ys (gateR ys (unP d)).q ds)
def stepsD (ys : List Dr) (h : Int) : D → Bool
  | .tup ds => stepsOk ys h ds
  | _ => false
theorem steps_loop {hs : D} {a b : Slot} {Q : Fl → G → Prop} (hh : hs = houseD r (dsD ys)) : ∀ {ds : List D} {h : Int} {e : Slot}, (∀ d ∈ ds, Pd d = true) → (stepsOk ys h ds = true → ∀ h' e, Q .nx ⟨[.val hs, a, b, .val (.int h'), e], S⟩) → (stepsOk ys h ds = false → ∀ env, Q (.ret (.bl false)) ⟨env, S⟩) →
    wp (forS (tgN 4) (seqS (ifS (orM (notM (boolM (callM 2 (F_is_pass K) (consA (varM 0) (consA (varM 4) nilA))))) (boolM (binM neD (binM ixD (callM 2 (F_gate_of K) (consA (varM 0) (consA (varM 4) nilA))) (retM (.int 0))) (varM 3)))) (retS (retM (.bl false))) skipS)
      (setS 3 (binM ixD (callM 2 (F_gate_of K) (consA (varM 0) (consA (varM 4) nilA))) (retM (.int 2))))) ds ⟨[.val hs, a, b, .val (.int h), e], S⟩) Q
  | [], h, e, _, q1, _ => q1 rfl _ _
  | d :: ds, h, e, hp, q1, q2 => by
    subst hh
    have pd := hp d List.mem_cons_self
    have ip := fun S => is_pass_eq (K := K) (S := S) (r := r) (ys := ys) pd
    cases hd : passOk ys.length d with
    | false =>
      simp [ip, hd]
      exact q2 (by simp [stepsOk, hd]) _
    | true =>
      obtain ⟨ed, hi⟩ := passOk_inv hd
      have ge := fun S => gate_eq (K := K) (S := S) (r := r) (ys := ys) hi
      rw [← ed] at ge
      by_cases hh : (gateR ys (unP d)).p = h
      · simp [ip, hd, ge, ix_g0, ix_g2, hh]
        exact steps_loop rfl (fun d hd => hp d (List.mem_cons_of_mem _ hd)) (fun k => q1 (by simp [stepsOk, hd, hh, k])) (fun k => q2 (by simp [stepsOk, hd, hh, k]))
      · simp [ip, hd, ge, ix_g0, ix_g2, hh]
        exact q2 (by simp [stepsOk, hd, hh]) _
theorem are_steps_eq {v : D} {h : Int} (hp : Pd v = true) : F_are_steps K [houseD r (dsD ys), .int h, v] S = .ok (.bl (stepsD ys h v)) S := by
  refine fok_eq ?_
  unfold F_are_steps m_are_steps
  simp [-wp_for_cons, env0, isi_tup (Pd.pl hp)]
  cases v with
  | tup xs =>
    simp [-wp_for_cons, isTupB]
    refine steps_loop rfl (Pds_all.mp (show Pds xs = true from hp)) (fun k h' e => ?_) (fun k env => ?_)
    · simp [stepsD, k]
    · simp [stepsD, k]
  | _ => first | (simp [Pd] at hp; done) | simp [isTupB, stepsD]
def lenT : D → Nat
  | .tup ds => ds.length
  | _ => 0
def intO : D → Int
  | .int i => i
  | _ => 0
def walkOk (r : Int) (ys : List Dr) : D → Bool
  | .tup [a, b, c] => below a r && (numsD b && (stepsD ys (intO a) c && decide (lenT b = lenT c + 1)))
  | _ => false
theorem is_walk_of_eq {v : D} (h : Pd v = true) (hl : lnB v = true) : F_is_walk_of K [houseD r (dsD ys), v] S = .ok (.bl (walkOk r ys v)) S := by
  refine fok_eq ?_
  unfold F_is_walk_of m_is_walk_of
  simp [env0, isi_tup (Pd.pl h), fld_rooms]
  cases v with
  | tup xs =>
    simp [isTupB]
    match xs, h, hl with
    | [], _, _ => simp [walkOk]
    | [a], _, _ => simp [walkOk]
    | [a, b], h, _ => simp [walkOk]
    | [a, b, c], h, hl =>
      simp [Pd, Pds] at h
      simp [lnB, lnsB] at hl
      have t3 : ∀ Γ, tgT 3 (tgCons (tgN 2) (tgCons (tgN 3) (tgCons (tgN 4) tgNil))) (.tup [a, b, c]) Γ = some (setV 4 (.val c) (setV 3 (.val b) (setV 2 (.val a) Γ))) := fun Γ => rfl
      have an := fun S => are_numbers_eq (K := K) (S := S) (v := b) h.2.1 (fun ds e => by subst e; simp [lnB] at hl; omega)
      simp [is_below_eq (Pd.pl h.1), walkOk]
      cases hb : below a r with
      | false => simp
      | true =>
        obtain ⟨i, rfl, i0, i1⟩ := below_inv hb
        have as := fun S => are_steps_eq (K := K) (S := S) (r := r) (ys := ys) (h := i) h.2.2
        simp [t3, an, as, intO]
        cases hn : numsD b with
        | false => simp
        | true =>
          cases hs : stepsD ys i c with
          | false => simp
          | true =>
            cases b <;> simp [numsD] at hn
            cases c <;> simp [stepsD] at hs
            rename_i bs cs
            simp [lenT]
            exact decide_eq_decide.mpr (by omega)
    | a :: b :: c :: d :: rest, _, _ =>
      have : ¬ ((rest.length : Int) + 1 + 1 + 1 + 1 = 3) := by omega
      simp [walkOk, this]
  | _ => first | (simp [Pd] at h; done) | simp [isTupB, walkOk]
end
structure Wk where
  room : Int
  pulls : List Int
  passes : List Pz
def Wk.d (w : Wk) : D := .tup [.int w.room, .tup (w.pulls.map .int), .tup (w.passes.map Pz.d)]
def chain (ys : List Dr) : Int → List Pz → Prop
  | _, [] => True
  | h, p :: r => p.i < ys.length ∧ (gateR ys p).p = h ∧ chain ys (gateR ys p).q r
def endR (ys : List Dr) : Int → List Pz → Int
  | h, [] => h
  | _, p :: r => endR ys (gateR ys p).q r
structure Wk.Ok (r : Int) (ys : List Dr) (w : Wk) : Prop where
  r0 : 0 ≤ w.room
  r1 : w.room < r
  len : w.pulls.length = w.passes.length + 1
  ch : chain ys w.room w.passes
def Wk.fin (ys : List Dr) (w : Wk) : Int := endR ys w.room w.passes
theorem steps_chain {ys : List Dr} : ∀ {ps : List Pz} {h : Int}, chain ys h ps → stepsOk ys h (ps.map Pz.d) = true
  | [], _, _ => rfl
  | p :: ps, h, c => by
    obtain ⟨c1, c2, c3⟩ := c
    show (passOk ys.length p.d && (decide ((gateR ys (unP p.d)).p = h) && stepsOk ys (gateR ys (unP p.d)).q (ps.map Pz.d))) = true
    rw [unP_d, passOk_d c1, c2, steps_chain c3]
    simp
theorem all_whole : ∀ xs : List Int, (xs.map D.int).all isWhole = true
  | [] => rfl
  | _ :: xs => all_whole xs
theorem walkOk_d {r : Int} {ys : List Dr} {w : Wk} (h : w.Ok r ys) : walkOk r ys w.d = true := by
  have := steps_chain h.ch
  have := h.len
  have := h.r0
  have := h.r1
  have := all_whole w.pulls
  simp [walkOk, Wk.d, below, numsD, stepsD, intO, lenT, *]
theorem pds_int : ∀ xs : List Int, Pds (xs.map D.int) = true
  | [] => rfl
  | _ :: xs => pds_int xs
theorem pds_pz : ∀ xs : List Pz, Pds (xs.map Pz.d) = true
  | [] => rfl
  | _ :: xs => pds_pz xs
theorem Wk.pd (w : Wk) : Pd w.d = true := by
  show (true && ((Pds (w.pulls.map .int)) && (Pds (w.passes.map Pz.d) && true))) = true
  rw [pds_int, pds_pz]; rfl
theorem lns_int : ∀ xs : List Int, lnsB (xs.map D.int) = true
  | [] => rfl
  | _ :: xs => lns_int xs
theorem lns_pz : ∀ xs : List Pz, lnsB (xs.map Pz.d) = true
  | [] => rfl
  | x :: xs => by
    show (lnB x.d && lnsB (xs.map Pz.d)) = true
    rw [lns_pz xs]; rfl
theorem Wk.ln {w : Wk} (h : w.pulls.length ≤ 1000) (h2 : w.passes.length ≤ 1000) : lnB w.d = true := by
  have e1 := lns_int w.pulls
  have e2 := lns_pz w.passes
  simp [Wk.d, lnB, lnsB, e1, e2, h, h2]
theorem sds_pz : ∀ xs : List Pz, sdsB 1 (xs.map Pz.d) = true
  | [] => rfl
  | x :: xs => by
    show (sdB 1 x.d && sdsB 1 (xs.map Pz.d)) = true
    rw [sds_pz xs]; rfl
theorem Wk.sd (w : Wk) : sdB 3 w.d = true := by
  show (true && (sdsB 1 (w.pulls.map .int) && (sdsB 1 (w.passes.map Pz.d) && true))) = true
  rw [sds_ints, sds_pz]; rfl
theorem chain_app {ys : List Dr} : ∀ {ps qs : List Pz} {h : Int}, chain ys h (ps ++ qs) ↔ chain ys h ps ∧ chain ys (endR ys h ps) qs
  | [], qs, h => by simp [chain, endR]
  | p :: ps, qs, h => by
    show (_ ∧ _ ∧ chain ys _ (ps ++ qs)) ↔ (_ ∧ _ ∧ _) ∧ _
    rw [chain_app]
    simp only [endR, and_assoc]
theorem endR_app {ys : List Dr} : ∀ {ps qs : List Pz} {h : Int}, endR ys h (ps ++ qs) = endR ys (endR ys h ps) qs
  | [], qs, h => rfl
  | p :: ps, qs, h => endR_app (ps := ps)
theorem endR_last {ys : List Dr} : ∀ {ps : List Pz} {h : Int} (ne : ps ≠ []), endR ys h ps = (gateR ys (ps.getLast ne)).q
  | [], _, ne => absurd rfl ne
  | [p], _, _ => rfl
  | p :: q :: ps, h, _ => by
    show endR ys (gateR ys p).q (q :: ps) = _
    rw [endR_last (ps := q :: ps) (h := (gateR ys p).q) (List.cons_ne_nil q ps), List.getLast_cons (List.cons_ne_nil q ps)]
theorem endR_rng {ys : List Dr} {r : Int} (hg : ∀ y ∈ ys, Dr.Good r y) : ∀ {ps : List Pz} {h : Int}, chain ys h ps → 0 ≤ h → h < r → 0 ≤ endR ys h ps ∧ endR ys h ps < r
  | [], _, _, h0, h1 => ⟨h0, h1⟩
  | p :: ps, _, c, _, _ => endR_rng (ps := ps) (h := (gateR ys p).q) hg c.2.2 (gate_good hg c.1).q0 (gate_good hg c.1).q1
end PR
set_option maxRecDepth 100000
set_option maxHeartbeats 2000000
namespace PR
open PySem PySem.Spec L2 DS
theorem lc_filt {α : Type} {vs : List Nat} {tg : TM} {tt : M Bool} {te : M D} {Γw : G} (e : α → D) (f : α → Bool) (g : α → D) : ∀ {xs : List α} {acc : List D}, (∀ x ∈ xs, ∃ Γ1, tg (e x) Γw = some Γ1 ∧ tt Γ1 = .ok (f x) Γ1 ∧ (f x = true → te Γ1 = .ok (g x) Γ1) ∧ wipeG vs Γ1 = Γw) → acc.length + xs.length ≤ 16777216 →
    lcS vs tg tt te (xs.map e) acc Γw = .ok (acc ++ (xs.filter f).map g) Γw
  | [], acc, _, _ => by simp [lcS]
  | x :: xs, acc, h, hl => by
    obtain ⟨Γ1, e1, e2, e3, e4⟩ := h x List.mem_cons_self
    have hr := fun y (hy : y ∈ xs) => h y (List.mem_cons_of_mem _ hy)
    rw [List.length_cons] at hl
    rw [List.map_cons]
    unfold lcS
    rw [e1]
    show ((nox (tt Γ1)).bind fun k Γ2 => _) = _
    rw [e2]
    show (if f x = true then _ else _) = _
    cases hf : f x with
    | false =>
      rw [if_neg Bool.false_ne_true, e4, lc_filt e f g hr (by omega)]
      simp [hf]
    | true =>
      rw [if_pos rfl, e3 hf]
      show (if acc.length < 16777216 then lcS vs tg tt te (xs.map e) (acc ++ [g x]) (wipeG vs Γ1) else _) = _
      rw [if_pos (by omega), e4, lc_filt e f g hr (by rw [List.length_append, List.length_singleton]; omega)]
      simp [hf]
theorem lc_map {α : Type} {vs : List Nat} {tg : TM} {tt : M Bool} {te : M D} {Γw : G} (e g : α → D) {xs : List α} (h : ∀ x ∈ xs, ∃ Γ1, tg (e x) Γw = some Γ1 ∧ tt Γ1 = .ok true Γ1 ∧ te Γ1 = .ok (g x) Γ1 ∧ wipeG vs Γ1 = Γw) (hl : xs.length ≤ 16777216) :
    lcS vs tg tt te (xs.map e) [] Γw = .ok (xs.map g) Γw := by
  have := lc_filt e (fun _ => true) g (acc := []) (fun x hx => by
    obtain ⟨Γ1, e1, e2, e3, e4⟩ := h x hx
    exact ⟨Γ1, e1, e2, fun _ => e3, e4⟩) (by simpa using hl)
  rw [this, List.filter_eq_self.mpr (by simp)]
  rfl
theorem cut_init {xs : List D} : cutD xs none (some (-1)) = xs.dropLast := by
  unfold cutD
  show (xs.drop 0).take ((-1 + (xs.length : Int)).toNat - 0) = _
  rw [List.drop_zero, List.dropLast_eq_take]
  congr 1
  omega
theorem cut_tail {xs : List D} : cutD xs (some 1) none = xs.tail := by
  cases xs with
  | nil => rfl
  | cons x xs =>
    have e : HT.sIx (x :: xs).length 0 (some 1) = 1 := by
      show HT.sIx _ _ (some ((1 : Nat) : Int)) = 1
      rw [HT.sIx_nat]
      simp
    unfold cutD
    rw [e]
    show ((x :: xs).drop 1).take ((x :: xs).length - 1) = _
    simp
def lastI (xs : List Int) : Int := xs.getLastD 0
def headI (xs : List Int) : Int := xs.headD 0
def joinW (a b : Wk) : Wk := ⟨a.room, a.pulls.dropLast ++ [lastI a.pulls + headI b.pulls] ++ b.pulls.tail, a.passes ++ b.passes⟩
def stand (x : Int) : Wk := ⟨x, [0], []⟩
def backW (ys : List Dr) (w : Wk) : Wk := ⟨w.fin ys, w.pulls.reverse.map (fun x => 0 - x), w.passes.reverse.map Pz.back⟩
theorem ix_w0 (w : Wk) : ixD w.d (.int 0) = some (.int w.room) := rfl
theorem ix_w1 (w : Wk) : ixD w.d (.int 1) = some (.tup (w.pulls.map .int)) := rfl
theorem ix_w2 (w : Wk) : ixD w.d (.int 2) = some (.tup (w.passes.map Pz.d)) := rfl
theorem at_last {xs : List Int} (h : xs ≠ []) : atI (xs.map D.int) (-1) = some (.int (lastI xs)) := by
  rw [atI_last (by simpa using h)]
  unfold lastI
  rw [List.getLast_map, List.getLastD_eq_getLast?, List.getLast?_eq_some_getLast h]
  rfl
theorem at_lastP {xs : List Pz} (h : xs ≠ []) : atI (xs.map Pz.d) (-1) = some (xs.getLast h).d := by
  rw [atI_last (by simpa using h), List.getLast_map]
theorem at_head {xs : List Int} (h : xs ≠ []) : atI (xs.map D.int) 0 = some (.int (headI xs)) := by
  cases xs with
  | nil => exact absurd rfl h
  | cons x xs => simp [headI]
theorem ne_unit (ps : List Pz) : neD (.tup (ps.map Pz.d)) (.tup []) = some (.bl (!ps.isEmpty)) := by
  rw [(sd_ne (n := 2) (m := 1) (a := .tup (ps.map Pz.d)) (b := .tup []) (sds_pz ps) rfl).1]
  cases ps <;> rfl
theorem Wk.Ok.ne {r : Int} {ys : List Dr} {w : Wk} (h : w.Ok r ys) : w.pulls ≠ [] := fun e => by have := h.len; rw [e] at this; cases this
theorem chain_lt {ys : List Dr} : ∀ {ps : List Pz} {h : Int}, chain ys h ps → ∀ p ∈ ps, p.i < ys.length
  | [], _, _, _, hp => by cases hp
  | q :: ps, h, c, p, hp => by
    rcases List.mem_cons.mp hp with rfl | hp
    · exact c.1
    · exact chain_lt c.2.2 p hp
section
variable {K : PySem.W.Frag} {S : DrawSt} {r : Int} {ys : List Dr}
theorem end_for_eq {w : Wk} (hw : ∀ p ∈ w.passes, p.i < ys.length) : F_end_for K [houseD r (dsD ys), w.d] S = .ok (.int (w.fin ys)) S := by
  refine fok_eq ?_
  unfold F_end_for m_end_for
  simp [env0, ix_w0, ix_w2, ne_unit]
  cases hp : w.passes with
  | nil => simp [Wk.fin, hp, endR]
  | cons p ps =>
    have ne : w.passes ≠ [] := by rw [hp]; simp
    rw [← hp]
    have e0 : w.passes.isEmpty = false := by rw [hp]; rfl
    have ge := fun S => gate_eq (K := K) (S := S) (r := r) (ys := ys) (hw _ (List.getLast_mem ne))
    simp [ne, at_lastP ne, ge, ix_g2, Wk.fin, endR_last ne]
theorem rc_end_eq {w : Wk} (hw : ∀ p ∈ w.passes, p.i < ys.length) : F__law_rc_end K [dsD ys, w.d] S = .ok (.int (w.fin ys)) S := by
  refine fok_eq ?_
  unfold F__law_rc_end m__law_rc_end
  simp [env0, ix_w0, ix_w2, ne_unit]
  cases hp : w.passes with
  | nil => simp [Wk.fin, hp, endR]
  | cons p ps =>
    have ne : w.passes ≠ [] := by rw [hp]; simp
    rw [← hp]
    have ge := fun S => rc_gate_eq (K := K) (S := S) (ys := ys) (hw _ (List.getLast_mem ne))
    simp [ne, at_lastP ne, ge, ix_g2, Wk.fin, endR_last ne]
/-- a walk that is not too long -/
structure Wk.Sh (w : Wk) : Prop where
  a : w.pulls ≠ []
  b : w.pulls.length ≤ 1000
  c : w.passes.length ≤ 1000
theorem join_D {a b : Wk} (ha : a.Sh) (hb : b.Sh) : addD (.tup (a.pulls.dropLast.map .int)) (.tup [.int (lastI a.pulls + headI b.pulls)]) = some (.tup ((a.pulls.dropLast ++ [lastI a.pulls + headI b.pulls]).map .int)) ∧
    addD (.tup ((a.pulls.dropLast ++ [lastI a.pulls + headI b.pulls]).map .int)) (.tup (b.pulls.tail.map .int)) = some (.tup ((a.pulls.dropLast ++ [lastI a.pulls + headI b.pulls] ++ b.pulls.tail).map .int)) ∧
    addD (.tup (a.passes.map Pz.d)) (.tup (b.passes.map Pz.d)) = some (.tup ((a.passes ++ b.passes).map Pz.d)) := by
  have h1 := ha.b
  have h2 := hb.b
  have h3 := ha.c
  have h4 := hb.c
  refine ⟨?_, ?_, ?_⟩
  · rw [addD_tup _ _ (by simp; omega)]; simp
  · rw [addD_tup _ _ (by simp; omega)]; simp
  · rw [addD_tup _ _ (by simp; omega)]; simp
theorem join_of_eq {a b : Wk} (ha : a.Sh) (hb : b.Sh) : F_join_of K [a.d, b.d] S = .ok (joinW a b).d S := by
  refine fok_eq ?_
  unfold F_join_of m_join_of
  obtain ⟨j1, j2, j3⟩ := join_D ha hb
  simp only [List.map_append, List.map_cons, List.map_nil, List.map_dropLast, List.map_tail] at j1 j2 j3
  simp [env0, ix_w0, ix_w1, ix_w2, at_last ha.a, at_head hb.a, cut_init, cut_tail, j1, j2, j3, -List.append_assoc]
  simp [joinW, Wk.d]
theorem rc_joined_eq {a b : Wk} (ha : a.Sh) (hb : b.Sh) : F__law_rc_joined K [a.d, b.d] S = .ok (joinW a b).d S := by
  refine fok_eq ?_
  unfold F__law_rc_joined m__law_rc_joined
  obtain ⟨j1, j2, j3⟩ := join_D ha hb
  simp only [List.map_append, List.map_cons, List.map_nil, List.map_dropLast, List.map_tail] at j1 j2 j3
  simp [env0, ix_w0, ix_w1, ix_w2, at_last ha.a, at_head hb.a, cut_init, cut_tail, j1, j2, j3, -List.append_assoc]
  simp [joinW, Wk.d]
theorem standing_in_eq {x : Int} : F_standing_in K [.int x] S = .ok (stand x).d S := by
  refine fok_eq ?_
  unfold F_standing_in m_standing_in
  simp [env0, stand, Wk.d]
theorem back_of_eq {w : Wk} (h : w.Sh) (hw : ∀ p ∈ w.passes, p.i < ys.length) : F_back_of K [houseD r (dsD ys), w.d] S = .ok (backW ys w).d S := by
  refine fok_eq ?_
  unfold F_back_of m_back_of
  have h1 := h.b
  have h2 := h.c
  have l1 := fun s3 s5 s6 => lc_map (vs := [4]) (tg := tgN 4) (tt := retM true) (te := (binM subD (retM (.int 0)) (varM 4))) (Γw := ⟨[.val (houseD r (dsD ys)), .val w.d, .un, s3, .un, s5, s6], S⟩) D.int (fun x => .int (0 - x)) (xs := w.pulls.reverse) (fun x _ => by
      refine ⟨_, rfl, rfl, res_eq ?_, rfl⟩
      simp) (by simp; omega)
  have t2 : ∀ (p : Pz) Γ, tgT 2 (tgCons (tgN 5) (tgCons (tgN 6) tgNil)) p.d Γ = some (setV 6 (.val (.int (sI p.s))) (setV 5 (.val (.int p.i)) Γ)) := fun _ _ => rfl
  have l2 := fun s2 s4 => lc_map (vs := [5, 6]) (tg := tgT 2 (tgCons (tgN 5) (tgCons (tgN 6) tgNil))) (tt := retM true) (te := (tupM (consA (varM 5) (consA (binM subD (retM (.int 1)) (varM 6)) nilA)))) (Γw := ⟨[.val (houseD r (dsD ys)), .val w.d, s2, .un, s4, .un, .un], S⟩) Pz.d (fun p => p.back.d) (xs := w.passes.reverse) (fun p _ => by
      refine ⟨_, t2 p _, rfl, res_eq ?_, rfl⟩
      simp [Pz.d, Pz.back]
      cases p.s <;> simp [sI]) (by simp; omega)
  simp only [List.map_reverse] at l1 l2
  simp [env0, ix_w1, ix_w2, wipeG, wipeE, l1, tupleD, l2, end_for_eq hw]
  simp [backW, Wk.d]
end
end PR
set_option maxRecDepth 100000
set_option maxHeartbeats 2000000
namespace PR
open PySem PySem.Spec L2 DS
section
variable {K : PySem.W.Frag} (X : Kx K) {S : DrawSt} {r : Int} {ys : List Dr}
theorem need_walk_ok {v : D} (h : Pd v = true) (hl : lnB v = true) (hw : walkOk r ys v = true) : F_need_walk K [houseD r (dsD ys), v] S = .ok .non S := by
  refine fok_eq ?_
  unfold F_need_walk m_need_walk
  simp [env0, is_walk_of_eq h hl, hw]
theorem need_walk_bad {v : D} (h : Pd v = true) (hl : lnB v = true) (hw : walkOk r ys v = false) : F_need_walk K [houseD r (dsD ys), v] S = .exc "BadWalk" S := by
  refine exc_run (exc_if (Γ1 := ⟨[.val (houseD r (dsD ys)), .val v], S⟩) (res_eq ?_) rfl)
  simp [env0, is_walk_of_eq h hl, hw]
theorem need_room_ok {x : Int} (h0 : 0 ≤ x) (h1 : x < r) {ds : D} : F_need_room K [houseD r ds, .int x] S = .ok .non S := by
  refine fok_eq ?_
  unfold F_need_room m_need_room
  simp [env0, fld_rooms, is_below_eq (show Pl (.int x) = true from rfl), below, h0, h1]
include X in
theorem need_house_non : F_need_house K [.non] S = .exc "BadHouse" S := by
  have ih : isiD K [.non, .glob "House"] = some (.bl false) := isi1 rfl rfl X.hn (fun _ z => by cases z)
  refine exc_run (exc_if (Γ1 := ⟨[.val .non], S⟩) (res_eq ?_) rfl)
  simp [env0, ih]
theorem Wk.Ok.sh {w : Wk} (h : w.Ok r ys) (hl : w.passes.length ≤ 999) : w.Sh := ⟨h.ne, by have := h.len; omega, by omega⟩
theorem Wk.Sh.ln {w : Wk} (h : w.Sh) : lnB w.d = true := Wk.ln h.b h.c
theorem need_walk_w {w : Wk} (h : w.Ok r ys) (hs : w.Sh) : F_need_walk K [houseD r (dsD ys), w.d] S = .ok .non S := need_walk_ok w.pd hs.ln (walkOk_d h)
include X in
theorem joined_eq {a b : Wk} (ha : a.Ok r ys) (sa : a.Sh) (hb : b.Ok r ys) (sb : b.Sh) (e : b.room = a.fin ys) : F_joined K [houseD r (dsD ys), a.d, b.d] S = .ok (joinW a b).d S := by
  refine fok_eq ?_
  unfold F_joined m_joined
  simp [env0, need_house_eq X, need_walk_w ha sa, need_walk_w hb sb, ix_w0, end_for_eq (chain_lt ha.ch), e, join_of_eq sa sb]
include X in
theorem joined_else {a b : Wk} (ha : a.Ok r ys) (sa : a.Sh) (hb : b.Ok r ys) (sb : b.Sh) (e : b.room ≠ a.fin ys) : F_joined K [houseD r (dsD ys), a.d, b.d] S = .exc "Elsewhere" S := by
  have Γ0 : G := ⟨[.val (houseD r (dsD ys)), .val a.d, .val b.d], S⟩
  refine exc_run (exc_seq2 (Γ1 := ⟨[.val (houseD r (dsD ys)), .val a.d, .val b.d], S⟩) (res_eq ?_) (exc_seq2 (Γ1 := ⟨[.val (houseD r (dsD ys)), .val a.d, .val b.d], S⟩) (res_eq ?_) (exc_seq2 (Γ1 := ⟨[.val (houseD r (dsD ys)), .val a.d, .val b.d], S⟩) (res_eq ?_) (exc_seq1 (exc_if (Γ1 := ⟨[.val (houseD r (dsD ys)), .val a.d, .val b.d], S⟩) (res_eq ?_) rfl)))))
  · simp [env0, need_house_eq X]
  · simp [need_walk_w ha sa]
  · simp [need_walk_w hb sb]
  · simp [ix_w0, end_for_eq (chain_lt ha.ch), e]
include X in
theorem joined_bad1 {v w : D} (h : Pd v = true) (hl : lnB v = true) (hw : walkOk r ys v = false) : F_joined K [houseD r (dsD ys), v, w] S = .exc "BadWalk" S := by
  refine exc_run (exc_seq2 (Γ1 := ⟨[.val (houseD r (dsD ys)), .val v, .val w], S⟩) (res_eq ?_) (exc_seq1 (exc_expr (exc_call (Γ1 := ⟨[.val (houseD r (dsD ys)), .val v, .val w], S⟩) (ds := [houseD r (dsD ys), v]) (res_eq ?_) rfl (need_walk_bad h hl hw)))))
  · simp [env0, need_house_eq X]
  · simp
include X in
theorem joined_bad2 {a : Wk} {w : D} (ha : a.Ok r ys) (sa : a.Sh) (h : Pd w = true) (hl : lnB w = true) (hw : walkOk r ys w = false) : F_joined K [houseD r (dsD ys), a.d, w] S = .exc "BadWalk" S := by
  refine exc_run (exc_seq2 (Γ1 := ⟨[.val (houseD r (dsD ys)), .val a.d, .val w], S⟩) (res_eq ?_) (exc_seq2 (Γ1 := ⟨[.val (houseD r (dsD ys)), .val a.d, .val w], S⟩) (res_eq ?_) (exc_seq1 (exc_expr (exc_call (Γ1 := ⟨[.val (houseD r (dsD ys)), .val a.d, .val w], S⟩) (ds := [houseD r (dsD ys), w]) (res_eq ?_) rfl (need_walk_bad h hl hw))))))
  · simp [env0, need_house_eq X]
  · simp [need_walk_w ha sa]
  · simp
include X in
theorem joined_bad3 {v w : D} : F_joined K [.non, v, w] S = .exc "BadHouse" S := by
  refine exc_run (exc_seq1 (exc_expr (exc_call (Γ1 := ⟨[.val .non, .val v, .val w], S⟩) (ds := [.non]) (res_eq ?_) rfl (need_house_non X))))
  simp [env0]
include X in
theorem back_eq {a : Wk} (ha : a.Ok r ys) (sa : a.Sh) : F_back K [houseD r (dsD ys), a.d] S = .ok (backW ys a).d S := by
  refine fok_eq ?_
  unfold F_back m_back
  simp [env0, need_house_eq X, need_walk_w ha sa, back_of_eq sa (chain_lt ha.ch)]
include X in
theorem back_bad {v : D} (h : Pd v = true) (hl : lnB v = true) (hw : walkOk r ys v = false) : F_back K [houseD r (dsD ys), v] S = .exc "BadWalk" S := by
  refine exc_run (exc_seq2 (Γ1 := ⟨[.val (houseD r (dsD ys)), .val v], S⟩) (res_eq ?_) (exc_seq1 (exc_expr (exc_call (Γ1 := ⟨[.val (houseD r (dsD ys)), .val v], S⟩) (ds := [houseD r (dsD ys), v]) (res_eq ?_) rfl (need_walk_bad h hl hw)))))
  · simp [env0, need_house_eq X]
  · simp
include X in
theorem standing_eq {x : Int} (h0 : 0 ≤ x) (h1 : x < r) {ds : D} : F_standing K [houseD r ds, .int x] S = .ok (stand x).d S := by
  refine fok_eq ?_
  unfold F_standing m_standing
  simp [env0, need_house_eq X, need_room_ok h0 h1, standing_in_eq]
theorem backward_eq {w : Wk} (h : w.Sh) (hw : ∀ p ∈ w.passes, p.i < ys.length) : F__law_rc_backward K [dsD ys, w.d] S = .ok (backW ys w).d S := by
  refine fok_eq ?_
  unfold F__law_rc_backward m__law_rc_backward
  have h1 := h.b
  have h2 := h.c
  have l1 := fun s3 => lc_map (vs := [2]) (tg := tgN 2) (tt := retM true) (te := (binM subD (retM (.int 0)) (varM 2))) (Γw := ⟨[.val (dsD ys), .val w.d, .un, s3], S⟩) D.int (fun x => .int (0 - x)) (xs := w.pulls) (fun x _ => by
      refine ⟨_, rfl, rfl, res_eq ?_, rfl⟩
      simp) (by omega)
  have l2 := fun s2 => lc_map (vs := [3]) (tg := tgN 3) (tt := retM true) (te := (callM 1 (F__law_rc_turned K) (consA (varM 3) nilA))) (Γw := ⟨[.val (dsD ys), .val w.d, s2, .un], S⟩) Pz.d (fun p => p.back.d) (xs := w.passes) (fun p _ => by
      refine ⟨_, rfl, rfl, res_eq ?_, rfl⟩
      simp [turned_eq]) (by omega)
  simp [env0, ix_w1, ix_w2, wipeG, wipeE, l1, tupleD, l2, rc_end_eq hw, revD]
  simp [backW, Wk.d]
theorem joinW_ok {a b : Wk} (ha : a.Ok r ys) (hb : b.Ok r ys) (e : b.room = a.fin ys) : (joinW a b).Ok r ys := by
  refine ⟨ha.r0, ha.r1, ?_, chain_app.mpr ⟨ha.ch, by show chain ys (endR ys a.room a.passes) b.passes; rw [← show b.room = endR ys a.room a.passes from e]; exact hb.ch⟩⟩
  have := ha.len
  have := hb.len
  simp [joinW]
  omega
theorem joinW_fin {a b : Wk} (e : b.room = a.fin ys) : (joinW a b).fin ys = b.fin ys := by
  show endR ys a.room (a.passes ++ b.passes) = _
  rw [endR_app, ← show b.room = endR ys a.room a.passes from e]
  rfl
theorem joinW_len {a b : Wk} : (joinW a b).passes.length = a.passes.length + b.passes.length := by simp [joinW]
theorem chain_back : ∀ {ps : List Pz} {h : Int}, chain ys h ps → chain ys (endR ys h ps) (ps.reverse.map Pz.back) ∧ endR ys (endR ys h ps) (ps.reverse.map Pz.back) = h
  | [], _, _ => ⟨trivial, rfl⟩
  | p :: ps, h, c => by
    obtain ⟨c1, c2, c3⟩ := c
    obtain ⟨i1, i2⟩ := chain_back c3
    rw [List.reverse_cons, List.map_append]
    refine ⟨chain_app.mpr ⟨i1, ?_⟩, ?_⟩
    · rw [show endR ys h (p :: ps) = endR ys (gateR ys p).q ps from rfl, i2]
      refine ⟨c1, ?_, trivial⟩
      rw [gate_back]; rfl
    · rw [endR_app, show endR ys h (p :: ps) = endR ys (gateR ys p).q ps from rfl, i2]
      show (gateR ys p.back).q = h
      rw [gate_back, ← c2]; rfl
theorem backW_ok (hg : ∀ y ∈ ys, Dr.Good r y) {a : Wk} (ha : a.Ok r ys) : (backW ys a).Ok r ys := by
  obtain ⟨h0, h1⟩ := endR_rng hg ha.ch ha.r0 ha.r1
  refine ⟨h0, h1, ?_, (chain_back ha.ch).1⟩
  have := ha.len
  simp [backW, this]
theorem backW_fin {a : Wk} (ha : a.Ok r ys) : (backW ys a).fin ys = a.room := (chain_back ha.ch).2
theorem stand_ok {x : Int} (h0 : 0 ≤ x) (h1 : x < r) : (stand x).Ok r ys := ⟨h0, h1, rfl, trivial⟩
theorem joinW_sh {a b : Wk} (ha : a.Sh) (hb : b.Sh) (h1 : a.pulls.length + b.pulls.length ≤ 1000) (h2 : a.passes.length + b.passes.length ≤ 1000) : (joinW a b).Sh := by
  have := ha.a
  have := hb.a
  refine ⟨by simp [joinW], ?_, by simp [joinW]; omega⟩
  simp [joinW]
  omega
theorem backW_sh {a : Wk} (ha : a.Sh) : (backW ys a).Sh := ⟨by have := ha.a; simp [backW, this], by have := ha.b; simp [backW]; omega, by have := ha.c; simp [backW]; omega⟩
theorem wk_ext {a b : Wk} (h1 : a.room = b.room) (h2 : a.pulls = b.pulls) (h3 : a.passes = b.passes) : a = b := by
  cases a; cases b; simp at h1 h2 h3; subst h1 h2 h3; rfl
theorem split_last {xs : List Int} (h : xs ≠ []) : ∃ a x, xs = a ++ [x] := ⟨xs.dropLast, xs.getLast h, (List.dropLast_concat_getLast h).symm⟩
theorem lastI_app (a : List Int) (x : Int) : lastI (a ++ [x]) = x := by simp [lastI]
theorem joinW_assoc {a b c : Wk} (ha : a.pulls ≠ []) (hb : b.pulls ≠ []) (hc : c.pulls ≠ []) : joinW (joinW a b) c = joinW a (joinW b c) := by
  obtain ⟨a1, x, ea⟩ := split_last ha
  obtain ⟨z, c1, ec⟩ : ∃ z c1, c.pulls = z :: c1 := by
    cases h : c.pulls with
    | nil => exact absurd h hc
    | cons z c1 => exact ⟨z, c1, rfl⟩
  refine wk_ext rfl ?_ (by simp [joinW])
  cases eb : b.pulls with
  | nil => exact absurd eb hb
  | cons y b1 =>
    by_cases e1 : b1 = []
    · subst e1
      simp [joinW, ea, eb, ec, headI, lastI]
      omega
    · obtain ⟨b2, w, rfl⟩ := split_last e1
      have e2 : (y :: (b2 ++ [w])).dropLast = y :: b2 := by
        rw [← List.cons_append, List.dropLast_concat]
      have e3 : (a1 ++ (x + y) :: (b2 ++ [w])).dropLast = a1 ++ (x + y) :: b2 := by
        rw [← List.cons_append, ← List.append_assoc, List.dropLast_concat]
      have e4 : lastI (y :: (b2 ++ [w])) = w := by rw [← List.cons_append]; exact lastI_app _ _
      have e5 : lastI (a1 ++ (x + y) :: (b2 ++ [w])) = w := by rw [← List.cons_append, ← List.append_assoc]; exact lastI_app _ _
      simp [joinW, ea, eb, ec, headI, e2, e3, e4, e5, lastI_app]
theorem joinW_stand_r {a : Wk} (ha : a.pulls ≠ []) {x : Int} : joinW a (stand x) = a := by
  obtain ⟨a1, y, ea⟩ := split_last ha
  refine wk_ext rfl ?_ (by simp [joinW, stand])
  simp [joinW, stand, ea, headI, lastI_app]
theorem joinW_stand_l {a : Wk} (ha : a.pulls ≠ []) : joinW (stand a.room) a = a := by
  refine wk_ext rfl ?_ (by simp [joinW, stand])
  cases e : a.pulls with
  | nil => exact absurd e ha
  | cons y l => simp [joinW, stand, e, headI, lastI]
theorem backW_back {a : Wk} (ha : a.Ok r ys) : backW ys (backW ys a) = a := by
  refine wk_ext (backW_fin ha) ?_ ?_
  · simp [backW]
    rw [show ((fun x : Int => -x) ∘ fun x => -x) = id from funext fun x => by simp]
    simp
  · simp only [backW, List.reverse_reverse, List.map_reverse, List.map_map]
    rw [show Pz.back ∘ Pz.back = id from funext fun p => by simp]
    simp
theorem backW_join {a b : Wk} (ha : a.pulls ≠ []) (hb : b.pulls ≠ []) (e : b.room = a.fin ys) : backW ys (joinW a b) = joinW (backW ys b) (backW ys a) := by
  refine wk_ext (joinW_fin e) ?_ (by simp [joinW, backW])
  obtain ⟨a1, x, ea⟩ := split_last ha
  cases eb : b.pulls with
  | nil => exact absurd eb hb
  | cons y b1 =>
    have e1 : ∀ (l : List Int) (u : Int), lastI (l ++ [u]) = u := lastI_app
    simp [joinW, backW, ea, eb, headI, lastI_app]
    omega
end
end PR
set_option maxRecDepth 100000
set_option maxHeartbeats 4000000
namespace PR
open PySem PySem.Spec L2 DS
section
variable {K : PySem.W.Frag} (X : Kx K) {S : DrawSt} {T : List (Addr × PySem.Str)} {r : Int} {ys : List Dr}
def powL (one : Wk) : Nat → Wk → Wk
  | 0, f => f
  | n + 1, f => powL one n (joinW f one)
theorem pow_loop {s0 s1 s2 : Slot} {one : Wk} {Q : Fl → G → Prop} (ho : one.Sh) : ∀ (n : Nat) {ls : List D} {f : Wk} {e : Slot}, ls.length = n → f.Sh → f.pulls.length + n * one.pulls.length ≤ 1000 → f.passes.length + n * one.passes.length ≤ 1000 → (∀ e, Q .nx ⟨[s0, s1, s2, .val one.d, .val (powL one n f).d, e], S⟩) →
    wp (forS (tgN 5) (setS 4 (callM 2 (F_join_of K) (consA (varM 4) (consA (varM 3) nilA)))) ls ⟨[s0, s1, s2, .val one.d, .val f.d, e], S⟩) Q
  | 0, ls, f, e, hl, _, _, _, hQ => by
    cases List.length_eq_zero_iff.mp hl
    exact hQ e
  | n + 1, [], f, e, hl, _, _, _, hQ => by cases hl
  | n + 1, l :: ls, f, e, hl, hf, h1, h2, hQ => by
    rw [Nat.succ_mul] at h1 h2
    simp [join_of_eq hf ho]
    have l1 : (joinW f one).pulls.length + 1 = f.pulls.length + one.pulls.length := by
      have a1 := List.length_pos_iff.mpr hf.a
      have a2 := List.length_pos_iff.mpr ho.a
      simp [joinW]
      omega
    exact pow_loop ho n (by simpa using hl) (joinW_sh hf ho (by omega) (by omega)) (by omega) (by rw [joinW_len]; omega) hQ
theorem abs_nat (t : Int) : (if t < 0 then -t else t) = t.natAbs := by split <;> omega
def oneW (ys : List Dr) (w : Wk) (t : Int) : Wk := if t > 0 then w else backW ys w
theorem oneW_sh {w : Wk} (h : w.Sh) (t : Int) : (oneW ys w t).Sh := by unfold oneW; split; exact h; exact backW_sh h
theorem oneW_len {w : Wk} (t : Int) : (oneW ys w t).pulls.length = w.pulls.length ∧ (oneW ys w t).passes.length = w.passes.length := by
  unfold oneW; split
  · exact ⟨rfl, rfl⟩
  · simp [backW]
theorem need_home_eq {w : Wk} (h : w.Ok r ys) (hs : w.Sh) (hf : w.fin ys = w.room) : F_need_home K [houseD r (dsD ys), w.d] S = .ok .non S := by
  refine fok_eq ?_
  unfold F_need_home m_need_home
  simp [env0, need_walk_w h hs, end_for_eq (chain_lt h.ch), ix_w0, hf]
include X in
theorem power_eq {w : Wk} (h : w.Ok r ys) (hs : w.Sh) (hf : w.fin ys = w.room) {t : Int} (t0 : t.natAbs ≤ 9) (h1 : t.natAbs * w.passes.length ≤ 60) : F_power K [houseD r (dsD ys), w.d, .int t] S = .ok (powL (oneW ys w t) t.natAbs (stand w.room)).d S := by
  refine fok_eq ?_
  unfold F_power m_power
  have nm : F_is_number K [.int t] S = .ok (.bl true) S := is_number_eq rfl
  have t1 : -9 ≤ t := by omega
  have t2 : t ≤ 9 := by omega
  have okr : okR (t.natAbs : Int) = true := by unfold okR; simp; omega
  have ab : (if t < 0 then -t else t) = t.natAbs := abs_nat t
  have pl := h.len
  have lp : t.natAbs * w.pulls.length ≤ 69 := by rw [pl, Nat.mul_add]; omega
  obtain ⟨o1, o2⟩ := oneW_len (ys := ys) (w := w) t
  have lr : (rangeL 0 (t.natAbs : Int)).length = t.natAbs := by unfold rangeL; simp
  have key : wp (forS (tgN 5) (setS 4 (callM 2 (F_join_of K) (consA (varM 4) (consA (varM 3) nilA)))) (rangeL 0 (t.natAbs : Int)) ⟨[.val (houseD r (dsD ys)), .val w.d, .val (.int t), .val (oneW ys w t).d, .val (stand w.room).d, .un], S⟩) (fun fl Γ1 => fl = .nx ∧ ∃ e, Γ1 = ⟨[.val (houseD r (dsD ys)), .val w.d, .val (.int t), .val (oneW ys w t).d, .val (powL (oneW ys w t) t.natAbs (stand w.room)).d, e], S⟩) :=
    pow_loop (oneW_sh hs t) t.natAbs lr ⟨by simp [stand], by simp [stand], by simp [stand]⟩ (by rw [o1]; simp [stand]; omega) (by rw [o2]; simp [stand]; omega) fun e => ⟨rfl, e, rfl⟩
  have fin : wp (forS (tgN 5) (setS 4 (callM 2 (F_join_of K) (consA (varM 4) (consA (varM 3) nilA)))) (rangeL 0 (t.natAbs : Int)) ⟨[.val (houseD r (dsD ys)), .val w.d, .val (.int t), .val (oneW ys w t).d, .val (stand w.room).d, .un], S⟩) (fun fl Γ1 => wp (varM 4 Γ1) fun d Γ2 => fl = .nx ∧ d = (powL (oneW ys w t) t.natAbs (stand w.room)).d ∧ Γ2.ds = S) := by
    refine wp_mono key fun fl Γ1 q => ?_
    obtain ⟨rfl, e, rfl⟩ := q
    simp
  have conv : ∀ {fl : Fl} {Γ1 : G}, (wp (varM 4 Γ1) fun d Γ2 => fl = .nx ∧ d = (powL (oneW ys w t) t.natAbs (stand w.room)).d ∧ Γ2.ds = S) → (match fl with
      | .nx => wp (varM 4 Γ1) fun d Γ1 => d = (powL (oneW ys w t) t.natAbs (stand w.room)).d ∧ Γ1.ds = S
      | .ret d => d = (powL (oneW ys w t) t.natAbs (stand w.room)).d ∧ Γ1.ds = S
      | .bk => False
      | .ct => False) := fun {fl Γ1} q => by
    have : fl = .nx := by
      revert q
      cases varM 4 Γ1 with
      | ok a b => exact fun q => q.1
      | exc _ _ => exact fun q => q.elim
      | stuck => exact fun q => q.elim
    subst this
    exact wp_mono q fun d Γ2 q => q.2
  have fin2 := wp_mono fin fun fl Γ1 q => conv q
  by_cases tp : 0 < t
  · have e1 : oneW ys w t = w := by unfold oneW; rw [if_pos tp]
    rw [e1] at fin2
    simp [-wp_for_cons, env0, need_house_eq X, need_home_eq h hs hf, nm, t1, t2, tp, ix_w0, standing_in_eq, ab, okr, e1]
    exact fin2
  · have e1 : oneW ys w t = backW ys w := by unfold oneW; rw [if_neg tp]
    rw [e1] at fin2
    simp [-wp_for_cons, env0, need_house_eq X, need_home_eq h hs hf, nm, t1, t2, tp, ix_w0, standing_in_eq, ab, okr, back_of_eq hs (chain_lt h.ch), e1]
    exact fin2
def fromL (ys : List Dr) (h : Int) (is : List Nat) : List Pz := is.flatMap fun i => ([false, true].filter fun b => decide ((gateR ys ⟨i, b⟩).p = h)).map fun b => ⟨i, b⟩
def fromR (ys : List Dr) (h : Int) : List Pz := fromL ys h (List.range ys.length)
theorem mem_from {h : Int} {p : Pz} : p ∈ fromR ys h ↔ p.i < ys.length ∧ (gateR ys p).p = h := by
  obtain ⟨i, b⟩ := p
  unfold fromR fromL
  simp only [List.mem_flatMap, List.mem_range, List.mem_map, List.mem_filter, decide_eq_true_eq]
  constructor
  · rintro ⟨j, hj, b', ⟨_, hb⟩, e⟩
    cases e
    exact ⟨hj, hb⟩
  · rintro ⟨h1, h2⟩
    exact ⟨i, h1, b, ⟨by cases b <;> simp, h2⟩, rfl⟩
theorem fromL_len {h : Int} : ∀ is : List Nat, (fromL ys h is).length ≤ 2 * is.length
  | [] => Nat.zero_le _
  | i :: is => by
    have := fromL_len (h := h) is
    have : (([false, true].filter fun b => decide ((gateR ys ⟨i, b⟩).p = h)).map fun b => (⟨i, b⟩ : Pz)).length ≤ 2 := by
      rw [List.length_map]
      exact List.length_filter_le _ _
    unfold fromL at *
    rw [List.flatMap_cons, List.length_append, List.length_cons]
    omega
theorem from_loop {h : Int} {Q : Fl → G → Prop} : ∀ {is : List Nat} {acc : List Pz} {e : Slot}, (∀ i ∈ is, i < ys.length) → acc.length + 2 * is.length ≤ 100000 → (∀ e, Q .nx ⟨[.val (dsD ys), .val (.int h), .val (.lst ((acc ++ fromL ys h is).map Pz.d)), e, .un], S⟩) →
    wp (forS (tgN 3) (setS 2 (binM addD (varM 2) (lstV (lcM (List.map Prod.snd ([("side", 4)] : List (PySem.Str × Nat))) (seqM (lstV (lstM (consA (retM (.int 0)) (consA (retM (.int 1)) nilA))))) (tgN 4) (boolM (binM eqD (binM ixD (callM 2 (F__law_rc_gate K) (consA (varM 0) (consA (tupM (consA (varM 3) (consA (varM 4) nilA))) nilA))) (retM (.int 0))) (varM 1))) (tupM (consA (varM 3) (consA (varM 4) nilA))))))) (is.map fun i : Nat => D.int i) ⟨[.val (dsD ys), .val (.int h), .val (.lst (acc.map Pz.d)), e, .un], S⟩) Q
  | [], acc, e, _, _, hQ => by
    have := hQ e
    simpa [fromL] using this
  | i :: is, acc, e, hi, hl, hQ => by
    have hi0 := hi i List.mem_cons_self
    rw [List.length_cons] at hl
    have key := lc_filt (vs := [4]) (tg := tgN 4) (tt := (boolM (binM eqD (binM ixD (callM 2 (F__law_rc_gate K) (consA (varM 0) (consA (tupM (consA (varM 3) (consA (varM 4) nilA))) nilA))) (retM (.int 0))) (varM 1)))) (te := (tupM (consA (varM 3) (consA (varM 4) nilA)))) (Γw := ⟨[.val (dsD ys), .val (.int h), .val (.lst (acc.map Pz.d)), .val (.int i), .un], S⟩) (fun b => D.int (sI b)) (fun b => decide ((gateR ys ⟨i, b⟩).p = h)) (fun b => (⟨i, b⟩ : Pz).d) (xs := [false, true]) (acc := []) (fun b _ => by
      have ge := fun S => rc_gate_eq (K := K) (S := S) (ys := ys) (p := ⟨i, b⟩) hi0
      refine ⟨_, rfl, res_eq ?_, fun _ => res_eq ?_, rfl⟩
      · simp [Pz.d] at ge
        simp [ge, ix_g0]
        exact (Classical.em _).symm
      · simp [Pz.d]) (by decide)
    have key' : lcS [4] (tgN 4) (boolM (binM eqD (binM ixD (callM 2 (F__law_rc_gate K) (consA (varM 0) (consA (tupM (consA (varM 3) (consA (varM 4) nilA))) nilA))) (retM (.int 0))) (varM 1))) (tupM (consA (varM 3) (consA (varM 4) nilA))) [D.int 0, D.int 1] [] ⟨[.val (dsD ys), .val (.int h), .val (.lst (acc.map Pz.d)), .val (.int i), .un], S⟩ = .ok ((fromL ys h [i]).map Pz.d) ⟨[.val (dsD ys), .val (.int h), .val (.lst (acc.map Pz.d)), .val (.int i), .un], S⟩ := by
      refine key.trans ?_
      simp [fromL, List.map_map, Function.comp_def]
    have l2 := fromL_len (ys := ys) (h := h) [i]
    have ad : addD (.lst (acc.map Pz.d)) (.lst ((fromL ys h [i]).map Pz.d)) = some (.lst ((acc ++ fromL ys h [i]).map Pz.d)) := by
      rw [addD_lst (by simp at l2 ⊢; omega), List.map_append]
    have ih := from_loop (is := is) (acc := acc ++ fromL ys h [i]) (e := .val (.int i)) (fun j hj => hi j (List.mem_cons_of_mem _ hj)) (by rw [List.length_append]; simp at l2; omega) (fun e => by
      have := hQ e
      have e2 : acc ++ fromL ys h [i] ++ fromL ys h is = acc ++ fromL ys h (i :: is) := by simp [fromL]
      rw [e2]
      exact this)
    show wp (forS _ _ (D.int (i : Int) :: is.map fun i : Nat => D.int i) _) Q
    rw [wp_for_cons]
    refine ⟨_, rfl, ?_⟩
    simp [-wp_for_cons, wipeG, wipeE, key', ad, -List.map_append]
    exact ih
theorem from_eq {h : Int} (hl : ys.length ≤ 1000) : F__law_rc_from K [dsD ys, .int h] S = .ok (.lst ((fromR ys h).map Pz.d)) S := by
  refine fok_eq ?_
  unfold F__law_rc_from m__law_rc_from
  have er : rangeL 0 (ys.length : Int) = (List.range ys.length).map fun i : Nat => D.int i := by
    unfold rangeL
    simp
  have okr : okR (ys.length : Int) = true := by unfold okR; simp; omega
  simp [-wp_for_cons, env0, okr, er]
  refine from_loop (K := K) (S := S) (ys := ys) (h := h) (is := List.range ys.length) (acc := []) (fun i hi => List.mem_range.mp hi) (by simp; omega) (fun e => ?_)
  simp [fromR]
theorem pulls_ok {k : Nat} (h : St T (k + 1) S) {R : D → DrawSt → Prop} (hR : ∀ i S', i.natAbs ≤ 24 → St T k S' → R (.int i) S') : FOk (F__law_rc_pulls K [.st] S) R := by
  unfold F__law_rc_pulls m__law_rc_pulls
  simp [env0]
  refine pick_ok h (by simp) (by simp) fun d S' hd hs => ?_
  have : ∃ i : Int, d = .int i ∧ i.natAbs ≤ 24 := by
    simp at hd
    rcases hd with rfl | rfl | rfl | rfl | rfl | rfl | rfl | rfl | rfl | rfl | rfl | rfl <;> exact ⟨_, rfl, by decide⟩
  obtain ⟨i, rfl, i1⟩ := this
  exact hR i S' i1 hs
end
end PR
set_option maxRecDepth 100000
set_option maxHeartbeats 4000000
namespace PR
open PySem PySem.Spec L2 DS
section
variable {K : PySem.W.Frag} {S : DrawSt} {T : List (Addr × PySem.Str)} {r : Int} {ys : List Dr}
theorem ne_nilP (ps : List Pz) : neD (.lst (ps.map Pz.d)) (.lst []) = some (.bl (!ps.isEmpty)) := by
  rw [(sd_ne (n := 2) (m := 1) (a := .lst (ps.map Pz.d)) (b := .lst []) (sds_pz ps) rfl).1]
  cases ps <;> rfl
theorem eq_nilP (ps : List Pz) : eqD (.lst (ps.map Pz.d)) (.lst []) = some (.bl ps.isEmpty) := by
  rw [(sd_ne (n := 2) (m := 1) (a := .lst (ps.map Pz.d)) (b := .lst []) (sds_pz ps) rfl).2]
  cases ps <;> rfl
def bWalk (K : PySem.W.Frag) : SM := (seqS (setS 7 (callM 2 (F__law_rc_from K) (consA (varM 1) (consA (varM 5) nilA))))
  (seqS (ifS (boolM (binM eqD (varM 7) (lstV (lstM nilA)))) brkS skipS)
  (seqS (setS 8 (ifM (andM (boolM (cmpP neD 4 (lstV (lstM nilA)))) (boolM (binM eqD (callM 2 (F__law_draw K) (consA (varM 0) (consA (retM (.int 3)) nilA))) (retM (.int 0))))) (callM 1 (F__law_rc_turned K) (consA (ixP 4 (negM (retM (.int 1)))) nilA)) (callM 2 (F__law_pick K) (consA (varM 0) (consA (varM 7) nilA)))))
  (seqS (exprS (apM 4 (varM 8)))
  (setS 5 (binM ixD (callM 2 (F__law_rc_gate K) (consA (varM 1) (consA (varM 8) nilA))) (retM (.int 2))))))))
theorem walk_loop {room : Int} {m : Nat} {s3 : Slot} {Q : Fl → G → Prop} {k : Nat} (hl : ys.length ≤ 1000) (hm : m ≤ 1000) (hQ : ∀ ps S' s5 s6 s7 s8, chain ys room ps → ps.length ≤ m → St T k S' → Q .nx ⟨[.val .st, .val (dsD ys), .val (.int room), s3, .own (ps.map Pz.d), s5, s6, s7, s8], S'⟩) :
    ∀ (n : Nat) {ls : List D} {ps : List Pz} {S : DrawSt} {s6 s7 s8 : Slot}, ls.length = n → chain ys room ps → ps.length + n ≤ m → St T (k + 2 * n) S →
    wp (forS (tgN 6) (bWalk K) ls ⟨[.val .st, .val (dsD ys), .val (.int room), s3, .own (ps.map Pz.d), .val (.int (endR ys room ps)), s6, s7, s8], S⟩) Q
  := by
  intro n
  induction n with
  | zero =>
    intro ls ps S s6 s7 s8 hn hc hp h
    cases List.length_eq_zero_iff.mp hn
    exact hQ ps S (.val (.int (endR ys room ps))) s6 s7 s8 hc (by omega) (h.mono (Nat.le_add_right _ _))
  | succ n IH =>
    intro ls ps S s6 s7 s8 hn hc hp h
    obtain ⟨l, ls, rfl⟩ : ∃ l l2, ls = l :: l2 := by
      cases ls with
      | nil => cases hn
      | cons l l2 => exact ⟨l, l2, rfl⟩
    have fe := fun S => from_eq (K := K) (S := S) (ys := ys) (h := endR ys room ps) hl
    have step := fun (p : Pz) (p1 : p.i < ys.length) (p2 : (gateR ys p).p = endR ys room ps) (S4 : DrawSt) (h4 : St T (k + 2 * n) S4) (s6 s7 s8 : Slot) => IH (ls := ls) (ps := ps ++ [p]) (S := S4) (s6 := s6) (s7 := s7) (s8 := s8) (by simpa using hn) (chain_app.mpr ⟨hc, p1, p2, trivial⟩) (by rw [List.length_append, List.length_singleton]; omega) h4
    have e5 : ∀ p : Pz, endR ys room (ps ++ [p]) = (gateR ys p).q := fun p => by rw [endR_app]; rfl
    rw [wp_for_cons]
    refine ⟨_, rfl, ?_⟩
    show wp (bWalk K _) _
    unfold bWalk
    simp [-wp_for_cons, fe, eq_nilP]
    by_cases he : fromR ys (endR ys room ps) = []
    · simp [-wp_for_cons, he]
      exact hQ ps S _ _ _ _ hc (by omega) (h.mono (by omega))
    · simp [-wp_for_cons, he, ne_nilP]
      have new := fun (S1 : DrawSt) (h1 : St T (k + 2 * n + 1) S1) (s7 : Slot) => show FOk (F__law_pick K [.st, .lst ((fromR ys (endR ys room ps)).map Pz.d)] S1) (fun d S2 => ∃ p : Pz, d = p.d ∧ p.i < ys.length ∧ (gateR ys p).p = endR ys room ps ∧ St T (k + 2 * n) S2) from
        pick_ok (k := k + 2 * n) h1 (by simpa using he) (by
          have := fromL_len (ys := ys) (h := endR ys room ps) (List.range ys.length)
          rw [List.length_range] at this
          rw [List.length_map]
          unfold fromR
          omega) fun d S2 hd h2 => by
          obtain ⟨p, hp, rfl⟩ := List.mem_map.mp hd
          obtain ⟨p1, p2⟩ := mem_from.mp hp
          exact ⟨p, rfl, p1, p2, h2⟩
      have fin := fun (p : Pz) (p1 : p.i < ys.length) (p2 : (gateR ys p).p = endR ys room ps) (S4 : DrawSt) (h4 : St T (k + 2 * n) S4) => by
        have := step p p1 p2 S4 h4 (.val l) (.val (.lst ((fromR ys (endR ys room ps)).map Pz.d))) (.val p.d)
        rw [e5, List.map_append] at this
        exact this
      have lp : ps.length < 16777216 := by omega
      cases hps : ps with
      | nil =>
        subst hps
        simp [-wp_for_cons]
        refine FOk.mono (new S (h.mono (by omega)) s7) fun d S2 q => ?_
        obtain ⟨p, rfl, p1, p2, h2⟩ := q
        have ge := fun S => rc_gate_eq (K := K) (S := S) (ys := ys) p1
        simp [-wp_for_cons, ge, ix_g2]
        exact fin p p1 p2 S2 h2
      | cons q qs =>
        have ne : ps ≠ [] := by rw [hps]; simp
        rw [← hps]
        simp [-wp_for_cons, ne]
        refine draw_ok (k := k + 2 * n + 1) h (by decide) (by decide) fun w S1 w0 w1 h1 => ?_
        by_cases hw : w = 0
        · have pb1 := chain_lt hc _ (List.getLast_mem ne)
          have pb2 : (gateR ys (ps.getLast ne).back).p = endR ys room ps := by rw [gate_back, endR_last ne]; rfl
          have ge := fun S => rc_gate_eq (K := K) (S := S) (ys := ys) (p := (ps.getLast ne).back) pb1
          simp [-wp_for_cons, hw, at_lastP ne, turned_eq, ge, ix_g2, lp]
          exact fin (ps.getLast ne).back pb1 pb2 S1 (h1.mono (by omega))
        · simp [-wp_for_cons, hw]
          refine FOk.mono (new S1 h1 s7) fun d S2 q => ?_
          obtain ⟨p, rfl, p1, p2, h2⟩ := q
          have ge := fun S => rc_gate_eq (K := K) (S := S) (ys := ys) p1
          simp [-wp_for_cons, ge, ix_g2, lp]
          exact fin p p1 p2 S2 h2
/-- a row of drawn pulls: one for each item of ls -/
theorem pulls_row {te : M D} {vs : List Nat} {tg : TM} {A : List D → G → Prop} {k : Nat} {env : List Slot} (ht : ∀ d S, ∃ Γ1, tg d ⟨env, S⟩ = some Γ1 ∧ Γ1.ds = S ∧ (∀ P : D → G → Prop, (FOk (F__law_rc_pulls K [.st] S) fun d S' => P d { Γ1 with ds := S' }) → wp (te Γ1) P) ∧ ∀ S', wipeG vs { Γ1 with ds := S' } = ⟨env, S'⟩) {m : Nat} (hm : m ≤ 100000)
    (hA : ∀ (xs : List Int) S', (∀ x ∈ xs, x.natAbs ≤ 24) → xs.length = m → St T k S' → A (xs.map D.int) ⟨env, S'⟩) : ∀ (n : Nat) {ls : List D} {xs : List Int} {S : DrawSt}, ls.length = n → (∀ x ∈ xs, x.natAbs ≤ 24) → xs.length + n = m → St T (k + n) S →
    wp (lcS vs tg (retM true) te ls (xs.map D.int) ⟨env, S⟩) A := by
  intro n
  induction n with
  | zero =>
    intro ls xs S hn hx hl h
    cases List.length_eq_zero_iff.mp hn
    exact hA xs S hx (by omega) h
  | succ n IH =>
    intro ls xs S hn hx hl h
    obtain ⟨l, ls, rfl⟩ : ∃ l l2, ls = l :: l2 := by
      cases ls with
      | nil => cases hn
      | cons l l2 => exact ⟨l, l2, rfl⟩
    obtain ⟨Γ1, e1, e2, e3, e4⟩ := ht l S
    unfold lcS
    rw [e1]
    show wp ((nox (te Γ1)).bind _) A
    rw [wp_bind, wp_nox]
    refine e3 _ (pulls_ok (k := k + n) h fun i S' i1 h1 => ?_)
    rw [if_pos (by rw [List.length_map]; omega), e4]
    have := IH (ls := ls) (xs := xs ++ [i]) (S := S') (by simpa using hn) (fun x hx' => by
      rcases List.mem_append.mp hx' with hx' | hx'
      · exact hx x hx'
      · rw [List.mem_singleton.mp hx']; exact i1) (by rw [List.length_append, List.length_singleton]; omega) h1
    rw [List.map_append] at this
    exact this
theorem walk_ok {k : Nat} {S : DrawSt} {room : Int} {m : Nat} (h : St T (k + 3 * m + 1) S) (hl : ys.length ≤ 1000) (hm : m ≤ 900) (r0 : 0 ≤ room) (r1 : room < r) {R : D → DrawSt → Prop}
    (hR : ∀ w S', Wk.Ok r ys w → w.room = room → w.passes.length ≤ m → (∀ x ∈ w.pulls, x.natAbs ≤ 24) → St T k S' → R w.d S') : FOk (F__law_rc_walk K [.st, dsD ys, .int room, .int m] S) R := by
  unfold F__law_rc_walk m__law_rc_walk
  have okr : okR (m : Int) = true := by unfold okR; simp; omega
  have lr : (rangeL 0 (m : Int)).length = m := by unfold rangeL; simp
  simp [-wp_for_cons, env0, okr]
  refine walk_loop (k := k + m + 1) (m := m) (s3 := .val (.int m)) (ps := []) hl (by omega) (fun ps S1 s5 s6 s7 s8 hc hp h1 => ?_) m lr trivial (by simp) (h.mono (by omega))
  have okr2 : okR ((ps.length : Int) + 1) = true := by unfold okR; simp; omega
  have lr2 : (rangeL 0 ((ps.length : Int) + 1)).length = ps.length + 1 := by unfold rangeL; simp
  simp [-wp_for_cons, okr2, wipeG, wipeE]
  refine pulls_row (K := K) (T := T) (k := k) (vs := [6]) (tg := tgN 6) (env := [.val .st, .val (dsD ys), .val (.int room), .val (.int m), .own (ps.map Pz.d), s5, .un, s7, s8]) (fun d S => ⟨_, rfl, rfl, fun P hP => ?_, fun S' => rfl⟩) (m := ps.length + 1) (by omega) (fun xs S2 hx hxl h2 => ?_) (ps.length + 1) (xs := []) lr2 (by simp) (by simp) (h1.mono (by omega))
  · simp
    exact hP
  · simp [tupleD]
    exact hR ⟨room, xs, ps⟩ S2 ⟨r0, r1, hxl, hc⟩ rfl hp hx h2
end
end PR
set_option maxRecDepth 100000
set_option maxHeartbeats 4000000
namespace PR
open PySem PySem.Spec L2 DS
/-- known rooms, begun at a -/
structure Ja (r a : Int) (known line : List Int) : Prop where
  nd : known.Nodup
  rg : ∀ i ∈ known, 0 ≤ i ∧ i < r
  z : a ∈ known
  sub : ∀ i ∈ line, i ∈ known
theorem Ja.add {r a : Int} {known line : List Int} {b : Int} (h : Ja r a known line) (hb : b ∉ known) (b0 : 0 ≤ b) (b1 : b < r) : Ja r a (known ++ [b]) (line ++ [b]) := by
  refine ⟨?_, fun i hi => ?_, by simp [h.z], fun i hi => ?_⟩
  · rw [List.nodup_append]
    refine ⟨h.nd, by simp, fun a ha c hc => ?_⟩
    simp at hc
    subst hc
    exact fun e => hb (e ▸ ha)
  · simp at hi
    rcases hi with hi | rfl
    · exact h.rg i hi
    · exact ⟨b0, b1⟩
  · simp at hi ⊢
    rcases hi with hi | hi
    · exact .inl (h.sub i hi)
    · exact .inr hi
theorem nodup_len {r : Int} {known : List Int} (hd : known.Nodup) (hr : ∀ i ∈ known, 0 ≤ i ∧ i < r) : known.length ≤ r.toNat := by
  have s : known.map Int.toNat ⊆ List.range r.toNat := by
    intro i hi
    obtain ⟨j, hj, rfl⟩ := List.mem_map.mp hi
    have := hr j hj
    simp
    omega
  have nd : (known.map Int.toNat).Nodup := by
    rw [List.nodup_iff_pairwise_ne, List.pairwise_map]
    refine List.pairwise_iff_forall_sublist.mpr fun {a b} hs => ?_
    have hab : a ≠ b := List.pairwise_iff_forall_sublist.mp hd hs
    have ha := hr a (hs.subset (by simp))
    have hb := hr b (hs.subset (by simp))
    intro e
    exact hab (by omega)
  have := List.Nodup.length_le_of_subset nd s
  simpa using this
theorem Ja.len {r a : Int} {known line : List Int} (h : Ja r a known line) : known.length ≤ r.toNat := nodup_len h.nd h.rg
theorem Ja.all {r a : Int} {known : List Int} {ys : List Dr} (h : Ja r a known []) (hg : ∀ y ∈ ys, Dr.Good r y) (hl : Linked r ys) (hc : ∀ x ∈ ys, Cl known [] x) {b : Int} (b0 : 0 ≤ b) (b1 : b < r) : b ∈ known := by
  have down : ∀ n : Nat, (n : Int) ∈ known → (0 : Int) ∈ known := by
    intro n
    induction n using Nat.strongRecOn with
    | _ n ih =>
      intro hn
      by_cases e : n = 0
      · subst e; exact hn
      · have hr := h.rg _ hn
        obtain ⟨x, hx, ht⟩ := hl n (by omega) hr.2
        have hcl := hc x hx
        have g := hg x hx
        rcases ht with ⟨e1, e2⟩ | ⟨e1, e2⟩
        · have q0 := g.q0
          have := hcl.1 (by rw [e1]; exact hn) (by simp)
          exact ih x.q.toNat (by omega) (by rw [show ((x.q.toNat : Nat) : Int) = x.q by omega]; exact this)
        · have q0 := g.p0
          have := hcl.2 (by rw [e1]; exact hn) (by simp)
          exact ih x.p.toNat (by omega) (by rw [show ((x.p.toNat : Nat) : Int) = x.p by omega]; exact this)
  have ha := h.rg _ h.z
  have z0 := down a.toNat (by rw [show ((a.toNat : Nat) : Int) = a by omega]; exact h.z)
  have := all_known (r := r) (known := known) (ys := ys) ⟨h.nd, h.rg, z0, by simp⟩ hg hl hc b.toNat (by omega)
  rwa [show ((b.toNat : Nat) : Int) = b by omega] at this
abbrev Ways := List (Int × List Pz)
def wy (l : Ways) : List (Key × D) := l.map fun e => (.inl e.1, .tup (e.2.map Pz.d))
def ks (l : Ways) : List Int := l.map (·.1)
theorem wy_get {h : Int} : ∀ {l : Ways}, h ∈ ks l → ∃ ps, (h, ps) ∈ l ∧ dGet (wy l) (.inl h) = some (.tup (ps.map Pz.d))
  | [], hh => by cases hh
  | e :: l, hh => by
    by_cases c : e.1 = h
    · refine ⟨e.2, by rw [← c]; exact List.mem_cons_self, ?_⟩
      unfold dGet wy
      rw [List.map_cons, List.find?_cons]
      simp [c]
    · have : h ∈ ks l := by
        rcases List.mem_cons.mp hh with z | z
        · exact absurd z.symm c
        · exact z
      obtain ⟨ps, h1, h2⟩ := wy_get this
      refine ⟨ps, List.mem_cons_of_mem _ h1, ?_⟩
      unfold dGet wy at *
      rw [List.map_cons, List.find?_cons]
      simp [c] at h2 ⊢
      exact h2
theorem wy_some {b : Int} : ∀ l : Ways, (dGet (wy l) (.inl b)).isSome = decide (b ∈ ks l)
  | [] => rfl
  | e :: l => by
    have ih := wy_some (b := b) l
    unfold dGet wy ks at *
    rw [List.map_cons, List.find?_cons]
    by_cases c : e.1 = b
    · simp [c]
    · have c' : ¬ b = e.1 := fun h => c h.symm
      have ed : decide (b ∈ (e :: l).map (·.1)) = decide (b ∈ l.map (·.1)) := by simp [c']
      rw [ed, ← ih]
      simp [c]
theorem wy_put {b : Int} {l : Ways} {ps : List Pz} (h : b ∉ ks l) : dPut (wy l) (.inl b) (.tup (ps.map Pz.d)) = wy (l ++ [(b, ps)]) := by
  unfold dPut
  have : ((wy l).any fun kv => decide (kv.1 = Sum.inl b)) = false := by
    simp [wy]
    intro a x ha e
    exact h (List.mem_map.mpr ⟨(a, x), ha, e⟩)
  rw [if_neg (by rw [this]; simp)]
  simp [wy]
def Wy (ys : List Dr) (a : Int) (m : Nat) (l : Ways) : Prop := ∀ e ∈ l, chain ys a e.2 ∧ endR ys a e.2 = e.1 ∧ e.2.length ≤ m
theorem Wy.mono {ys : List Dr} {a : Int} {m n : Nat} {l : Ways} (h : Wy ys a m l) (k : m ≤ n) : Wy ys a n l := fun e he => ⟨(h e he).1, (h e he).2.1, Nat.le_trans (h e he).2.2 k⟩
section
variable {K : PySem.W.Frag} {S : DrawSt} {r : Int} {ys : List Dr}
def bRoad (K : PySem.W.Frag) : SM := (seqS (setS 9 (binM ixD (callM 2 (F__law_rc_gate K) (consA (varM 1) (consA (varM 8) nilA))) (retM (.int 2))))
  (ifS (boolM (dinP true 4 (varM 9))) (seqS (dputM 4 (varM 9) (binM addD (dixP 4 (varM 7)) (tupM (consA (varM 8) nilA))))
  (exprS (apM 5 (varM 9)))) skipS))
/-- what the passes from h give -/
structure Grow (ys : List Dr) (r a h : Int) (m : Nat) (l : Ways) (line : List Int) (l' : Ways) (line' : List Int) : Prop where
  jn : Ja r a (ks l') line'
  wy : Wy ys a (m + 1) l'
  one : ∀ e ∈ l', e.1 = h → e.2.length ≤ m
  sub : ∀ i ∈ ks l, i ∈ ks l'
  len : line'.length + (ks l).length = line.length + (ks l').length
  cl : ∀ x, Cl (ks l) (h :: line) x → Cl (ks l') (h :: line') x
theorem Grow.trans {a h : Int} {m : Nat} {l l' l'' : Ways} {i i' i'' : List Int} (g : Grow ys r a h m l i l' i') (g' : Grow ys r a h m l' i' l'' i'') : Grow ys r a h m l i l'' i'' :=
  ⟨g'.jn, g'.wy, g'.one, fun j hj => g'.sub j (g.sub j hj), by have := g.len; have := g'.len; omega, fun x hx => g'.cl x (g.cl x hx)⟩
theorem road_in {a h : Int} {m : Nat} {s0 s2 s3 s6 : Slot} {Q : Fl → G → Prop} (hg : ∀ y ∈ ys, Dr.Good r y) (hr : r ≤ 1000) (hm : m ≤ 1000) : ∀ (ps : List Pz) {l : Ways} {line : List Int} {s8 s9 : Slot}, (∀ p ∈ ps, p.i < ys.length ∧ (gateR ys p).p = h) → Ja r a (ks l) line → Wy ys a (m + 1) l → (∀ e ∈ l, e.1 = h → e.2.length ≤ m) → h ∈ ks l → line.length ≤ (ks l).length →
    (∀ l' line' s8 s9, Grow ys r a h m l line l' line' → (∀ p ∈ ps, (gateR ys p).q ∈ ks l') → Q .nx ⟨[s0, .val (dsD ys), s2, s3, .ownd (wy l'), .own (line'.map .int), s6, .val (.int h), s8, s9], S⟩) →
    wp (forS (tgN 8) (bRoad K) (ps.map Pz.d) ⟨[s0, .val (dsD ys), s2, s3, .ownd (wy l), .own (line.map .int), s6, .val (.int h), s8, s9], S⟩) Q := by
  intro ps
  induction ps with
  | nil =>
    intro l line s8 s9 hp hj hw ho hh hln hQ
    exact hQ l line s8 s9 ⟨hj, hw, ho, fun i hi => hi, rfl, fun x hx => hx⟩ (by simp)
  | cons p ps IH =>
    intro l line s8 s9 hp hj hw ho hh hln hQ
    obtain ⟨p1, p2⟩ := hp p List.mem_cons_self
    have g := gate_good hg p1
    have ge := fun S => rc_gate_eq (K := K) (S := S) (ys := ys) p1
    have kd : ∀ i : Int, keyD (.int i) = some (.inl i) := fun _ => rfl
    have q := wy_some (b := (gateR ys p).q) l
    have klen := hj.len
    have lsub : line.length ≤ 100000 := by omega
    show wp (forS (tgN 8) (bRoad K) (p.d :: ps.map Pz.d) _) Q
    rw [wp_for_cons]
    refine ⟨_, rfl, ?_⟩
    show wp (bRoad K _) _
    unfold bRoad
    have wl : (wy l).length < 16777216 := by
      have : (wy l).length = (ks l).length := by simp [wy, ks]
      omega
    by_cases hin : (gateR ys p).q ∈ ks l
    · simp [hin] at q
      simp [-wp_for_cons, ge, ix_g2, kd, peekK, q]
      exact .inl (IH (fun p hp' => hp p (List.mem_cons_of_mem _ hp')) hj hw ho hh hln fun l' line' s8 s9 gr hq => hQ l' line' s8 s9 gr fun p' hp' => by
        rcases List.mem_cons.mp hp' with rfl | hp'
        · exact gr.sub _ hin
        · exact hq p' hp')
    · simp [hin] at q
      obtain ⟨qs, hqs, eg⟩ := wy_get hh
      obtain ⟨c1, c2, c3⟩ := hw _ hqs
      have c4 : qs.length ≤ m := ho _ hqs rfl
      have c5 : qs.length ≤ m + 1 := c3
      have ad : addD (.tup (qs.map Pz.d)) (.tup [p.d]) = some (.tup ((qs ++ [p]).map Pz.d)) := by
        rw [addD_tup _ _ (by simp; omega)]; simp
      simp [-wp_for_cons, ge, ix_g2, kd, peekK, q, eg, ad, wl, wy_put hin, -List.map_append]
      have gr : Grow ys r a h m l line (l ++ [((gateR ys p).q, qs ++ [p])]) (line ++ [(gateR ys p).q]) := by
        have ek : ks (l ++ [((gateR ys p).q, qs ++ [p])]) = ks l ++ [(gateR ys p).q] := by simp [ks]
        refine ⟨?_, fun e he => ?_, fun e he eh => ?_, fun i hi => ?_, ?_, fun x hx => ?_⟩
        · rw [ek]; exact hj.add hin g.q0 g.q1
        · rcases List.mem_append.mp he with he | he
          · exact hw e he
          · rw [List.mem_singleton.mp he]
            refine ⟨chain_app.mpr ⟨c1, p1, by rw [p2, c2], trivial⟩, ?_, by rw [List.length_append, List.length_singleton]; omega⟩
            rw [endR_app]; rfl
        · rcases List.mem_append.mp he with he | he
          · exact ho e he eh
          · rw [List.mem_singleton.mp he] at eh
            have eh' : (gateR ys p).q = h := eh
            exact absurd (eh' ▸ hh) hin
        · rw [ek]; exact List.mem_append_left _ hi
        · rw [ek]; simp; omega
        · rw [ek]; exact hx.add hin
      have nxt := IH (l := l ++ [((gateR ys p).q, qs ++ [p])]) (line := line ++ [(gateR ys p).q]) (s8 := .val p.d) (s9 := .val (.int (gateR ys p).q)) (fun p hp' => hp p (List.mem_cons_of_mem _ hp')) gr.jn gr.wy gr.one (gr.sub _ hh) (by have := gr.len; omega) fun l' line' s8 s9 gr' hq => hQ l' line' s8 s9 (gr.trans gr') fun p' hp' => by
        rcases List.mem_cons.mp hp' with rfl | hp'
        · exact gr'.sub _ (by simp [ks])
        · exact hq p' hp'
      rw [List.map_append] at nxt
      exact ⟨by omega, nxt⟩
def bLapR (K : PySem.W.Frag) : SM := (seqS (ifS (boolM (cmpP eqD 5 (lstV (lstM nilA)))) brkS skipS)
  (seqS (setS 7 (popAtM 5 (retM (.int 0))))
  (forM' (seqM (callM 2 (F__law_rc_from K) (consA (varM 1) (consA (varM 7) nilA)))) (tgN 8) (bRoad K))))
theorem eq_nilI (l : List Int) : eqD (.lst (l.map .int)) (.lst []) = some (.bl l.isEmpty) := by
  rw [(sd_ne (n := 2) (m := 1) (a := .lst (l.map .int)) (b := .lst []) (sds_ints l) rfl).2]
  cases l <;> rfl
theorem road_lap {a : Int} {s0 s2 s3 : Slot} {Q : Fl → G → Prop} (hg : ∀ y ∈ ys, Dr.Good r y) (hr : r ≤ 1000) (hl : ys.length ≤ 1000) (hQ : ∀ l s6 s7 s8 s9, Ja r a (ks l) [] → Wy ys a r.toNat l → (∀ x ∈ ys, Cl (ks l) [] x) → Q .nx ⟨[s0, .val (dsD ys), s2, s3, .ownd (wy l), .own [], s6, s7, s8, s9], S⟩) :
    ∀ (n : Nat) {ls : List D} {l : Ways} {line : List Int} {j : Nat} {s6 s7 s8 s9 : Slot}, ls.length = n → n + j = r.toNat → Ja r a (ks l) line → Wy ys a j l → (ks l).length = line.length + j → (∀ x ∈ ys, Cl (ks l) line x) →
    wp (forS (tgN 6) (bLapR K) ls ⟨[s0, .val (dsD ys), s2, s3, .ownd (wy l), .own (line.map .int), s6, s7, s8, s9], S⟩) (fun fl Γ => match fl with
      | .nx => Q .nx Γ
      | .bk => False
      | .ct => False
      | .ret _ => False) := by
  intro n
  induction n with
  | zero =>
    intro ls l line j s6 s7 s8 s9 hn hj hja hw hk hc
    cases List.length_eq_zero_iff.mp hn
    have := hja.len
    have e : line = [] := List.length_eq_zero_iff.mp (by omega)
    subst e
    exact hQ l _ _ _ _ hja (hw.mono (by omega)) hc
  | succ n IH =>
    intro ls l line j s6 s7 s8 s9 hn hj hja hw hk hc
    obtain ⟨x, ls, rfl⟩ : ∃ x l2, ls = x :: l2 := by
      cases ls with
      | nil => cases hn
      | cons x l2 => exact ⟨x, l2, rfl⟩
    rw [wp_for_cons]
    refine ⟨_, rfl, ?_⟩
    show wp (bLapR K _) _
    unfold bLapR
    cases line with
    | nil =>
      have e0 := eq_nilI []
      simp only [List.map_nil, List.isEmpty_nil] at e0
      simp [-wp_for_cons, e0]
      exact hQ l _ _ _ _ hja (hw.mono (by omega)) hc
    | cons h rest =>
      have e0 := eq_nilI (h :: rest)
      simp only [List.map_cons, List.isEmpty_cons] at e0
      have fe := fun S => from_eq (K := K) (S := S) (ys := ys) (h := h) hl
      have hk' : (ks l).length = rest.length + 1 + j := by rw [List.length_cons] at hk; omega
      have lj := hja.len
      have z2 : (0 : Int) ≤ 0 := Int.le_refl 0
      simp [-wp_for_cons, e0, fe]
      refine road_in (a := a) (m := j) hg hr (by omega) (fromR ys h) (fun p hp => mem_from.mp hp) ⟨hja.nd, hja.rg, hja.z, fun i hi => hja.sub i (by simp [hi])⟩ (hw.mono (by omega)) (fun e he _ => (hw e he).2.2) (hja.sub h (by simp)) (by omega) fun l' line' s8 s9 gr hq => ?_
      refine IH (j := j + 1) (by simpa using hn) (by omega) gr.jn gr.wy (by have := gr.len; omega) fun x hx => ?_
      have c := gr.cl x (by have := hc x hx; simpa [Cl, and_comm] using this)
      obtain ⟨i, hi, rfl⟩ := List.mem_iff_getElem.mp hx
      have ei : ys.getD i dr0 = ys[i] := by simp [hi]
      refine ⟨fun k1 k2 => ?_, fun k1 k2 => ?_⟩
      · by_cases eh : (ys[i]).p = h
        · have hp : (⟨i, false⟩ : Pz) ∈ fromR ys h := mem_from.mpr ⟨hi, by unfold gateR; simp [hi]; exact eh⟩
          have := hq _ hp
          unfold gateR at this
          simpa [hi] using this
        · exact c.1 k1 (by simp [eh, k2])
      · by_cases eh : (ys[i]).q = h
        · have hp : (⟨i, true⟩ : Pz) ∈ fromR ys h := mem_from.mpr ⟨hi, by unfold gateR; simp [hi, Dr.flip]; exact eh⟩
          have := hq _ hp
          unfold gateR at this
          simpa [hi, Dr.flip] using this
        · exact c.2 k1 (by simp [eh, k2])
theorem road_ok {a b : Int} (hg : ∀ y ∈ ys, Dr.Good r y) (hlk : Linked r ys) (hr : r ≤ 1000) (hl : ys.length ≤ 1000) (a0 : 0 ≤ a) (a1 : a < r) (b0 : 0 ≤ b) (b1 : b < r) : FOk (F__law_rc_road K [.int r, dsD ys, .int a, .int b] S) fun d S' => S' = S ∧ ∃ ps, d = .tup (ps.map Pz.d) ∧ chain ys a ps ∧ endR ys a ps = b ∧ ps.length ≤ r.toNat := by
    unfold F__law_rc_road m__law_rc_road
    have okr : okR r = true := by unfold okR; simp; omega
    have lr : (rangeL 0 r).length = r.toNat := by unfold rangeL; simp
    have kd : ∀ i : Int, keyD (.int i) = some (.inl i) := fun _ => rfl
    simp [-wp_for_cons, env0, okr, kd]
    have := road_lap (K := K) (S := S) (s0 := .val (.int r)) (s2 := .val (.int a)) (s3 := .val (.int b)) (Q := fun fl Γ => wp (dixP 4 (varM 3) Γ) fun d Γ' => fl = .nx ∧ Γ'.ds = S ∧ ∃ ps, d = .tup (ps.map Pz.d) ∧ chain ys a ps ∧ endR ys a ps = b ∧ ps.length ≤ r.toNat) (a := a) hg hr hl (fun l s6 s7 s8 s9 hj hw hc => by
      have hb := hj.all hg hlk hc b0 b1
      obtain ⟨ps, h1, h2⟩ := wy_get hb
      obtain ⟨c1, c2, c3⟩ := hw _ h1
      simp [peekK, kd, h2]
      exact ⟨ps, rfl, c1, c2, c3⟩) r.toNat (l := [(a, [])]) (line := [a]) (j := 0) (s6 := .un) (s7 := .un) (s8 := .un) (s9 := .un) lr (by omega) ⟨by simp [ks], by simp [ks]; omega, by simp [ks], by simp [ks]⟩ (fun e he => by
        rw [List.mem_singleton.mp he]
        exact ⟨trivial, rfl, Nat.le_refl _⟩) rfl (fun x _ => ⟨fun h1 h2 => absurd h1 (by simpa [ks] using h2), fun h1 h2 => absurd h1 (by simpa [ks] using h2)⟩)
    refine wp_mono this fun fl Γ q => ?_
    cases fl with
    | nx =>
      simp at q
      exact q
    | bk => exact q.elim
    | ct => exact q.elim
    | ret d => exact q.elim
end
end PR
set_option maxRecDepth 100000
set_option maxHeartbeats 4000000
namespace PR
open PySem PySem.Spec L2 DS
mutual
theorem eqv_self : ∀ (n : Nat) (d : D), sdB n d = true → eqvD d d = true
  | _, .non, _ => rfl
  | _, .int i, _ => by simp [eqvD]
  | _, .bl b, _ => by simp [eqvD]
  | n + 1, .tup ds, h => eqvs_self n ds h
  | n + 1, .lst ds, h => eqvs_self n ds h
  | 0, .tup ds, h => by simp [sdB] at h
  | 0, .lst ds, h => by simp [sdB] at h
  | _, .str _, h => by simp [sdB] at h
  | _, .dic _, h => by simp [sdB] at h
  | _, .obj _ _, h => by simp [sdB] at h
  | _, .exc _, h => by simp [sdB] at h
  | _, .glob _, h => by simp [sdB] at h
  | _, .ty _, h => by simp [sdB] at h
  | _, .st, h => by simp [sdB] at h
  | _, .gr, h => by simp [sdB] at h
  | _, .scr _, h => by simp [sdB] at h
theorem eqvs_self : ∀ (n : Nat) (ds : List D), sdsB n ds = true → eqvDs ds ds = true
  | _, [], _ => rfl
  | n, d :: r, h => by
    unfold sdsB at h
    rw [Bool.and_eq_true] at h
    show (eqvD d d && eqvDs r r) = true
    rw [eqv_self n d h.1, eqvs_self n r h.2]; rfl
end
theorem ne_same {n : Nat} {d : D} (h : sdB n d = true) (hn : n ≤ 64) : neD d d = some (.bl false) ∧ eqD d d = some (.bl true) := by
  obtain ⟨h1, h2⟩ := sd_ne h h hn hn
  rw [h1, h2, eqv_self n d h]
  exact ⟨rfl, rfl⟩
theorem nms_int {B : Nat} (hB : B ≤ bigN) : ∀ xs : List Int, (∀ x ∈ xs, x.natAbs < B) → nmsB (xs.map D.int) = true
  | [], _ => rfl
  | x :: xs, h => by
    show (nmB (.int x) && nmsB (xs.map D.int)) = true
    rw [nms_int hB xs fun y hy => h y (List.mem_cons_of_mem _ hy)]
    simp [nmB]
    exact Nat.lt_of_lt_of_le (h x List.mem_cons_self) hB
theorem nms_pz : ∀ xs : List Pz, (∀ p ∈ xs, p.i < 10 ^ 30) → nmsB (xs.map Pz.d) = true
  | [], _ => rfl
  | p :: xs, h => by
    have e : nmB p.d = true := by
      simp [Pz.d, nmB, nmsB]
      refine ⟨lt_big (by have := h p List.mem_cons_self; omega), lt_big ?_⟩
      cases p.s <;> simp [sI]
    show (nmB p.d && nmsB (xs.map Pz.d)) = true
    rw [e, nms_pz xs fun y hy => h y (List.mem_cons_of_mem _ hy)]
    rfl
theorem size_int : ∀ xs : List Int, sizesD (xs.map D.int) = xs.length
  | [] => rfl
  | x :: xs => by show 1 + sizesD (xs.map D.int) = xs.length + 1; rw [size_int xs]; omega
theorem size_pz : ∀ xs : List Pz, sizesD (xs.map Pz.d) = 3 * xs.length
  | [] => rfl
  | x :: xs => by show 3 + sizesD (xs.map Pz.d) = 3 * (xs.length + 1); rw [size_pz xs]; omega
theorem wk_ne (w : Wk) : neD w.d w.d = some (.bl false) := (ne_same w.sd (by decide)).1
theorem wk_repr {w : Wk} (h : w.Sh) (hi : ∀ p ∈ w.passes, p.i < 10 ^ 30) (hr : w.room.natAbs < 10 ^ 30) (hb : ∀ x ∈ w.pulls, x.natAbs < 10 ^ 200) : ∃ s, reprD [w.d] = some (.str s) ∧ neD (.str s) (.str s) = some (.bl false) := by
  refine repr_same w.sd (by decide) ?_ ?_ (.inr (.inl ⟨_, rfl⟩))
  · have e1 := nms_int (Nat.le_of_lt (lt_big (i := 10 ^ 200 - 1) (by decide)) |> fun h => by
      have : (10 : Nat) ^ 200 ≤ bigN := by
        have := lt_big (i := 10 ^ 200 - 1) (by decide +kernel)
        omega
      exact this) w.pulls hb
    have e2 := nms_pz w.passes hi
    simp [Wk.d, nmB, nmsB, e1, e2]
    exact lt_big (by omega)
  · have := h.b
    have := h.c
    show sizesD [.int w.room, .tup (w.pulls.map .int), .tup (w.passes.map Pz.d)] + 1 ≤ 41000
    show 1 + ((sizesD (w.pulls.map .int) + 1) + ((sizesD (w.passes.map Pz.d) + 1) + 0)) + 1 ≤ 41000
    rw [size_int, size_pz]
    omega
section
variable {K : PySem.W.Frag} {S : DrawSt} {T : List (Addr × PySem.Str)} {r : Int} {ys : List Dr}
/-- what is odd -/
def ODD : List D := [.non, .int 0, .int (-1), .bl true, .str "1", .str "", .tup [], .lst [], .dic [], .tup [.int 1], .tup [.tup [.int 0]], .tup [.str "a"], .tup [.str "a", .str "a"], .int (10 ^ 18)]
theorem odd_in {k : Nat} {S : DrawSt} (h : St T (k + 1) S) {R : D → DrawSt → Prop} (hR : ∀ d S', d ∈ ODD → St T k S' → R d S') : FOk (F__law_odd K [.st] S) R := by
  unfold F__law_odd m__law_odd
  have pw : powD (.int 10) (.int 18) = some (.int (10 ^ 18)) := rfl
  simp [env0, dicV, wp_bind, pw]
  refine pick_ok h (by simp) (by simp) fun d S' hd hs => ?_
  exact hR d S' (by simpa [ODD] using hd) hs
theorem odd_facts {d : D} (h : d ∈ ODD) : Pd d = true ∧ lnB d = true ∧ ∀ ds, d = .tup ds → ds.length ≤ 2 := by
  simp [ODD] at h
  rcases h with rfl | rfl | rfl | rfl | rfl | rfl | rfl | rfl | rfl | rfl | rfl | rfl | rfl | rfl <;> exact ⟨rfl, rfl, fun ds e => by cases e <;> simp⟩
theorem walkOk_short {d : D} (h : ∀ ds, d = .tup ds → ds.length ≠ 3) : walkOk r ys d = false := by
  cases d with
  | tup ds =>
    have := h ds rfl
    match ds with
    | [] => rfl
    | [_] => rfl
    | [_, _] => rfl
    | [_, _, _] => simp at this
    | _ :: _ :: _ :: _ :: _ => rfl
  | _ => rfl
/-- a drawn walk that comes home -/
theorem home_ok {k : Nat} {S : DrawSt} {room : Int} {m : Nat} (h : St T (k + 3 * m + 20) S) (hg : ∀ y ∈ ys, Dr.Good r y) (hlk : Linked r ys) (hr : r ≤ 12) (hl : ys.length ≤ 1000) (hm : m ≤ 500) (r0 : 0 ≤ room) (r1 : room < r) {R : D → DrawSt → Prop}
    (hR : ∀ w S', Wk.Ok r ys w → w.room = room → w.fin ys = room → w.passes.length ≤ m + 12 → (∀ x ∈ w.pulls, x.natAbs ≤ 24) → St T k S' → R w.d S') : FOk (F__law_rc_home K [.st, .tup [.int r, dsD ys], .int room, .int m] S) R := by
  unfold F__law_rc_home m__law_rc_home
  have t2 : ∀ Γ, tgT 2 (tgCons (tgN 4) (tgCons (tgN 5) tgNil)) (.tup [.int r, dsD ys]) Γ = some (setV 5 (.val (dsD ys)) (setV 4 (.val (.int r)) Γ)) := fun Γ => rfl
  simp [-wp_for_cons, env0, t2]
  refine @PR.walk_ok K T r ys (k + 19) S room m (h.mono (by omega)) hl (by omega) r0 r1 _ fun w S1 hw er hpl hx h1 => ?_
  obtain ⟨f0, f1⟩ := endR_rng hg hw.ch hw.r0 hw.r1
  simp [-wp_for_cons, rc_end_eq (chain_lt hw.ch)]
  refine FOk.mono (road_ok hg hlk (by omega) hl f0 f1 r0 r1) fun d S2 q => ?_
  obtain ⟨rfl, ps, rfl, c1, c2, c3⟩ := q
  simp [-wp_for_cons, ix_w1, wipeG, wipeE]
  refine pulls_row (K := K) (T := T) (k := k) (vs := [8]) (tg := tgN 8) (env := [.val .st, .val (.tup [.int r, dsD ys]), .val (.int room), .val (.int m), .val (.int r), .val (dsD ys), .val w.d, .val (.tup (ps.map Pz.d)), .un]) (fun d S => ⟨_, rfl, rfl, fun P hP => ?_, fun S' => rfl⟩) (m := ps.length) (by omega) (fun xs S3 hxs hxl h3 => ?_) ps.length (ls := ps.map Pz.d) (xs := []) (by simp) (by simp) (by simp) (h1.mono (by omega))
  · simp
    exact hP
  · have l1 := hw.len
    have a1 : addD (.tup (w.pulls.map .int)) (.tup (xs.map .int)) = some (.tup ((w.pulls ++ xs).map .int)) := by
      rw [addD_tup _ _ (by simp; omega), List.map_append]
    have a2 : addD (.tup (w.passes.map Pz.d)) (.tup (ps.map Pz.d)) = some (.tup ((w.passes ++ ps).map Pz.d)) := by
      rw [addD_tup _ _ (by simp; omega), List.map_append]
    simp [-wp_for_cons, tupleD, a1, a2, ix_w2, -List.map_append]
    have er2 : endR ys room w.passes = w.fin ys := by rw [← er]; rfl
    refine hR ⟨room, w.pulls ++ xs, w.passes ++ ps⟩ S3 ⟨r0, r1, ?_, chain_app.mpr ⟨by rw [← er]; exact hw.ch, by rw [er2]; exact c1⟩⟩ rfl ?_ ?_ (fun x hx' => ?_) h3
    · simp [l1, hxl]; omega
    · show endR ys room (w.passes ++ ps) = room
      rw [endR_app, er2]; exact c2
    · simp; omega
    · rcases List.mem_append.mp hx' with hx' | hx'
      · exact hx x hx'
      · exact hxs x hx'
end
end PR
set_option maxRecDepth 100000
set_option maxHeartbeats 4000000
namespace LK01
open PySem PySem.Spec L2 DS PR
def top (i : Nat) : Stmt := PySem.Challenge.pw_ropescounted_k01_walks_joined_and_backwa.main.body.getD i (.Pass ⟨0, 0, 0, 0⟩)
def clsStmt (s : Stmt) (j : Nat) : Stmt := match s with
  | .ClassDef _ _ _ b _ _ _ _ _ _ _ => b.getD j (.Pass ⟨0, 0, 0, 0⟩)
  | _ => .Pass ⟨0, 0, 0, 0⟩
structure Fx (K : PySem.W.Frag) (mg : PySem.Str → Option Value) : Prop where
  cl_House : Cls K (ce K "House")
  d_House : ∃ fd, FunD K "__init__" "House.__init__" (defArgs (clsStmt (top 27) 0)) (defBody (clsStmt (top 27) 0)) (defScope (clsStmt (top 27) 0)) [] [] (He.ma K (ce K "House") "__init__") fd
  d__law_begun : ∃ fd, FunD K "_law_begun" "_law_begun" (defArgs (top 47)) (defBody (top 47)) (defScope (top 47)) [] [] (ce K "_law_begun") fd
  d__law_blended : ∃ fd, FunD K "_law_blended" "_law_blended" (defArgs (top 48)) (defBody (top 48)) (defScope (top 48)) [] [] (ce K "_law_blended") fd
  d__law_caught : ∃ fd, FunD K "_law_caught" "_law_caught" (defArgs (top 52)) (defBody (top 52)) (defScope (top 52)) [] [] (ce K "_law_caught") fd
  d__law_draw : ∃ fd, FunD K "_law_draw" "_law_draw" (defArgs (top 49)) (defBody (top 49)) (defScope (top 49)) [] [] (ce K "_law_draw") fd
  d__law_k01_power : ∃ fd, FunD K "_law_k01_power" "_law_k01_power" (defArgs (top 68)) (defBody (top 68)) (defScope (top 68)) [] [] (ce K "_law_k01_power") fd
  d__law_mixed : ∃ fd, FunD K "_law_mixed" "_law_mixed" (defArgs (top 51)) (defBody (top 51)) (defScope (top 51)) [] [] (ce K "_law_mixed") fd
  d__law_odd : ∃ fd, FunD K "_law_odd" "_law_odd" (defArgs (top 53)) (defBody (top 53)) (defScope (top 53)) [] [] (ce K "_law_odd") fd
  d__law_pick : ∃ fd, FunD K "_law_pick" "_law_pick" (defArgs (top 50)) (defBody (top 50)) (defScope (top 50)) [] [] (ce K "_law_pick") fd
  d__law_rc_backward : ∃ fd, FunD K "_law_rc_backward" "_law_rc_backward" (defArgs (top 66)) (defBody (top 66)) (defScope (top 66)) [] [] (ce K "_law_rc_backward") fd
  d__law_rc_doors : ∃ fd, FunD K "_law_rc_doors" "_law_rc_doors" (defArgs (top 55)) (defBody (top 55)) (defScope (top 55)) [] [] (ce K "_law_rc_doors") fd
  d__law_rc_end : ∃ fd, FunD K "_law_rc_end" "_law_rc_end" (defArgs (top 60)) (defBody (top 60)) (defScope (top 60)) [] [] (ce K "_law_rc_end") fd
  d__law_rc_from : ∃ fd, FunD K "_law_rc_from" "_law_rc_from" (defArgs (top 58)) (defBody (top 58)) (defScope (top 58)) [] [] (ce K "_law_rc_from") fd
  d__law_rc_gate : ∃ fd, FunD K "_law_rc_gate" "_law_rc_gate" (defArgs (top 57)) (defBody (top 57)) (defScope (top 57)) [] [] (ce K "_law_rc_gate") fd
  d__law_rc_home : ∃ fd, FunD K "_law_rc_home" "_law_rc_home" (defArgs (top 64)) (defBody (top 64)) (defScope (top 64)) [] [] (ce K "_law_rc_home") fd
  d__law_rc_joined : ∃ fd, FunD K "_law_rc_joined" "_law_rc_joined" (defArgs (top 65)) (defBody (top 65)) (defScope (top 65)) [] [] (ce K "_law_rc_joined") fd
  d__law_rc_number : ∃ fd, FunD K "_law_rc_number" "_law_rc_number" (defArgs (top 54)) (defBody (top 54)) (defScope (top 54)) [] [] (ce K "_law_rc_number") fd
  d__law_rc_pulls : ∃ fd, FunD K "_law_rc_pulls" "_law_rc_pulls" (defArgs (top 61)) (defBody (top 61)) (defScope (top 61)) [] [] (ce K "_law_rc_pulls") fd
  d__law_rc_road : ∃ fd, FunD K "_law_rc_road" "_law_rc_road" (defArgs (top 63)) (defBody (top 63)) (defScope (top 63)) [] [] (ce K "_law_rc_road") fd
  d__law_rc_told : ∃ fd, FunD K "_law_rc_told" "_law_rc_told" (defArgs (top 56)) (defBody (top 56)) (defScope (top 56)) [] [] (ce K "_law_rc_told") fd
  d__law_rc_turned : ∃ fd, FunD K "_law_rc_turned" "_law_rc_turned" (defArgs (top 59)) (defBody (top 59)) (defScope (top 59)) [] [] (ce K "_law_rc_turned") fd
  d__law_rc_walk : ∃ fd, FunD K "_law_rc_walk" "_law_rc_walk" (defArgs (top 62)) (defBody (top 62)) (defScope (top 62)) [] [] (ce K "_law_rc_walk") fd
  d__law_rc_word : ∃ fd, FunD K "_law_rc_word" "_law_rc_word" (defArgs (top 67)) (defBody (top 67)) (defScope (top 67)) [] [] (ce K "_law_rc_word") fd
  d_are_doors : ∃ fd, FunD K "are_doors" "are_doors" (defArgs (top 25)) (defBody (top 25)) (defScope (top 25)) [] [] (ce K "are_doors") fd
  d_are_numbers : ∃ fd, FunD K "are_numbers" "are_numbers" (defArgs (top 3)) (defBody (top 3)) (defScope (top 3)) [] [] (ce K "are_numbers") fd
  d_are_steps : ∃ fd, FunD K "are_steps" "are_steps" (defArgs (top 34)) (defBody (top 34)) (defScope (top 34)) [] [] (ce K "are_steps") fd
  d_back : ∃ fd, FunD K "back" "back" (defArgs (top 43)) (defBody (top 43)) (defScope (top 43)) [] [] (ce K "back") fd
  d_back_of : ∃ fd, FunD K "back_of" "back_of" (defArgs (top 40)) (defBody (top 40)) (defScope (top 40)) [] [] (ce K "back_of") fd
  d_end_for : ∃ fd, FunD K "end_for" "end_for" (defArgs (top 37)) (defBody (top 37)) (defScope (top 37)) [] [] (ce K "end_for") fd
  d_gate_of : ∃ fd, FunD K "gate_of" "gate_of" (defArgs (top 31)) (defBody (top 31)) (defScope (top 31)) [] [] (ce K "gate_of") fd
  d_is_below : ∃ fd, FunD K "is_below" "is_below" (defArgs (top 2)) (defBody (top 2)) (defScope (top 2)) [] [] (ce K "is_below") fd
  d_is_door : ∃ fd, FunD K "is_door" "is_door" (defArgs (top 24)) (defBody (top 24)) (defScope (top 24)) [] [] (ce K "is_door") fd
  d_is_number : ∃ fd, FunD K "is_number" "is_number" (defArgs (top 1)) (defBody (top 1)) (defScope (top 1)) [] [] (ce K "is_number") fd
  d_is_pass : ∃ fd, FunD K "is_pass" "is_pass" (defArgs (top 30)) (defBody (top 30)) (defScope (top 30)) [] [] (ce K "is_pass") fd
  d_is_walk_of : ∃ fd, FunD K "is_walk_of" "is_walk_of" (defArgs (top 35)) (defBody (top 35)) (defScope (top 35)) [] [] (ce K "is_walk_of") fd
  d_join_of : ∃ fd, FunD K "join_of" "join_of" (defArgs (top 39)) (defBody (top 39)) (defScope (top 39)) [] [] (ce K "join_of") fd
  d_joined : ∃ fd, FunD K "joined" "joined" (defArgs (top 42)) (defBody (top 42)) (defScope (top 42)) [] [] (ce K "joined") fd
  d_joined_rooms : ∃ fd, FunD K "joined_rooms" "joined_rooms" (defArgs (top 26)) (defBody (top 26)) (defScope (top 26)) [] [] (ce K "joined_rooms") fd
  d_law : ∃ fd, FunD K "law" "law" (defArgs (top 69)) (defBody (top 69)) (defScope (top 69)) [] [] (ce K "law") fd
  d_need_home : ∃ fd, FunD K "need_home" "need_home" (defArgs (top 38)) (defBody (top 38)) (defScope (top 38)) [] [] (ce K "need_home") fd
  d_need_house : ∃ fd, FunD K "need_house" "need_house" (defArgs (top 28)) (defBody (top 28)) (defScope (top 28)) [] [] (ce K "need_house") fd
  d_need_room : ∃ fd, FunD K "need_room" "need_room" (defArgs (top 29)) (defBody (top 29)) (defScope (top 29)) [] [] (ce K "need_room") fd
  d_need_walk : ∃ fd, FunD K "need_walk" "need_walk" (defArgs (top 36)) (defBody (top 36)) (defScope (top 36)) [] [] (ce K "need_walk") fd
  d_power : ∃ fd, FunD K "power" "power" (defArgs (top 45)) (defBody (top 45)) (defScope (top 45)) [] [] (ce K "power") fd
  d_standing : ∃ fd, FunD K "standing" "standing" (defArgs (top 44)) (defBody (top 44)) (defScope (top 44)) [] [] (ce K "standing") fd
  d_standing_in : ∃ fd, FunD K "standing_in" "standing_in" (defArgs (top 41)) (defBody (top 41)) (defScope (top 41)) [] [] (ce K "standing_in") fd
  exm : ∀ n ∈ (["BadDoors", "BadHouse", "BadMove", "BadPass", "BadRoom", "BadRooms", "BadSpot", "BadState", "BadTimes", "BadWalk", "Elsewhere", "NotHome"] : List String), PySem.W.exmOne K (.ref (ce K n)) (.ref (ce K "PullError")) = some true
  fr_abs : mg "abs" = none
  fr_all : mg "all" = none
  fr_bool : mg "bool" = none
  fr_int : mg "int" = none
  fr_isinstance : mg "isinstance" = none
  fr_len : mg "len" = none
  fr_list : mg "list" = none
  fr_min : mg "min" = none
  fr_range : mg "range" = none
  fr_repr : mg "repr" = none
  fr_reversed : mg "reversed" = none
  fr_tuple : mg "tuple" = none
  g_BadHouse : mg "BadHouse" = some (.ref (ce K "BadHouse"))
  g_BadMove : mg "BadMove" = some (.ref (ce K "BadMove"))
  g_BadPass : mg "BadPass" = some (.ref (ce K "BadPass"))
  g_BadRoom : mg "BadRoom" = some (.ref (ce K "BadRoom"))
  g_BadSpot : mg "BadSpot" = some (.ref (ce K "BadSpot"))
  g_BadState : mg "BadState" = some (.ref (ce K "BadState"))
  g_BadTimes : mg "BadTimes" = some (.ref (ce K "BadTimes"))
  g_BadWalk : mg "BadWalk" = some (.ref (ce K "BadWalk"))
  g_Elsewhere : mg "Elsewhere" = some (.ref (ce K "Elsewhere"))
  g_House : mg "House" = some (.ref (ce K "House"))
  g_NotHome : mg "NotHome" = some (.ref (ce K "NotHome"))
  g_PullError : mg "PullError" = some (.ref (ce K "PullError"))
  g_TooMany : mg "TooMany" = some (.ref (ce K "TooMany"))
  g__law_begun : mg "_law_begun" = some (.ref (ce K "_law_begun"))
  g__law_blended : mg "_law_blended" = some (.ref (ce K "_law_blended"))
  g__law_caught : mg "_law_caught" = some (.ref (ce K "_law_caught"))
  g__law_draw : mg "_law_draw" = some (.ref (ce K "_law_draw"))
  g__law_k01_power : mg "_law_k01_power" = some (.ref (ce K "_law_k01_power"))
  g__law_mixed : mg "_law_mixed" = some (.ref (ce K "_law_mixed"))
  g__law_odd : mg "_law_odd" = some (.ref (ce K "_law_odd"))
  g__law_pick : mg "_law_pick" = some (.ref (ce K "_law_pick"))
  g__law_rc_backward : mg "_law_rc_backward" = some (.ref (ce K "_law_rc_backward"))
  g__law_rc_doors : mg "_law_rc_doors" = some (.ref (ce K "_law_rc_doors"))
  g__law_rc_end : mg "_law_rc_end" = some (.ref (ce K "_law_rc_end"))
  g__law_rc_from : mg "_law_rc_from" = some (.ref (ce K "_law_rc_from"))
  g__law_rc_gate : mg "_law_rc_gate" = some (.ref (ce K "_law_rc_gate"))
  g__law_rc_home : mg "_law_rc_home" = some (.ref (ce K "_law_rc_home"))
  g__law_rc_joined : mg "_law_rc_joined" = some (.ref (ce K "_law_rc_joined"))
  g__law_rc_number : mg "_law_rc_number" = some (.ref (ce K "_law_rc_number"))
  g__law_rc_pulls : mg "_law_rc_pulls" = some (.ref (ce K "_law_rc_pulls"))
  g__law_rc_road : mg "_law_rc_road" = some (.ref (ce K "_law_rc_road"))
  g__law_rc_told : mg "_law_rc_told" = some (.ref (ce K "_law_rc_told"))
  g__law_rc_turned : mg "_law_rc_turned" = some (.ref (ce K "_law_rc_turned"))
  g__law_rc_walk : mg "_law_rc_walk" = some (.ref (ce K "_law_rc_walk"))
  g__law_rc_word : mg "_law_rc_word" = some (.ref (ce K "_law_rc_word"))
  g_are_doors : mg "are_doors" = some (.ref (ce K "are_doors"))
  g_are_numbers : mg "are_numbers" = some (.ref (ce K "are_numbers"))
  g_are_steps : mg "are_steps" = some (.ref (ce K "are_steps"))
  g_back : mg "back" = some (.ref (ce K "back"))
  g_back_of : mg "back_of" = some (.ref (ce K "back_of"))
  g_end_for : mg "end_for" = some (.ref (ce K "end_for"))
  g_gate_of : mg "gate_of" = some (.ref (ce K "gate_of"))
  g_is_below : mg "is_below" = some (.ref (ce K "is_below"))
  g_is_door : mg "is_door" = some (.ref (ce K "is_door"))
  g_is_number : mg "is_number" = some (.ref (ce K "is_number"))
  g_is_pass : mg "is_pass" = some (.ref (ce K "is_pass"))
  g_is_walk_of : mg "is_walk_of" = some (.ref (ce K "is_walk_of"))
  g_join_of : mg "join_of" = some (.ref (ce K "join_of"))
  g_joined : mg "joined" = some (.ref (ce K "joined"))
  g_joined_rooms : mg "joined_rooms" = some (.ref (ce K "joined_rooms"))
  g_law : mg "law" = some (.ref (ce K "law"))
  g_need_home : mg "need_home" = some (.ref (ce K "need_home"))
  g_need_house : mg "need_house" = some (.ref (ce K "need_house"))
  g_need_room : mg "need_room" = some (.ref (ce K "need_room"))
  g_need_walk : mg "need_walk" = some (.ref (ce K "need_walk"))
  g_power : mg "power" = some (.ref (ce K "power"))
  g_standing : mg "standing" = some (.ref (ce K "standing"))
  g_standing_in : mg "standing_in" = some (.ref (ce K "standing_in"))
  i_GREATEST : ∃ t, mg "GREATEST" = some (.int 999 t)
  i_MOST_DOORS : ∃ t, mg "MOST_DOORS" = some (.int 20 t)
  i_MOST_ROOMS : ∃ t, mg "MOST_ROOMS" = some (.int 12 t)
  i_MOST_TIMES : ∃ t, mg "MOST_TIMES" = some (.int 9 t)
  mk_House : Mk K (ce K "House") (He.ma K (ce K "House") "__init__")
  na_House_doors : NoAttr K (ce K "House") "doors"
  na_House_rooms : NoAttr K (ce K "House") "rooms"
  x_BadDoors : XFact K mg "BadDoors"
  x_BadHouse : XFact K mg "BadHouse"
  x_BadRoom : XFact K mg "BadRoom"
  x_BadRooms : XFact K mg "BadRooms"
  x_BadTimes : XFact K mg "BadTimes"
  x_BadWalk : XFact K mg "BadWalk"
  x_Elsewhere : XFact K mg "Elsewhere"
  x_NotHome : XFact K mg "NotHome"
theorem sc_is_number : FnScope N_is_number ["value"] (defScope (top 1)) := ⟨rfl, rfl, rfl, by decide +kernel, rfl, by decide +kernel, by decide +kernel⟩
theorem b_is_number {P : Program} {w : World} {K : PySem.W.Frag} {mg : PySem.Str → Option Value} {base : Heap} (W : Fx K mg) : ∀ (cdv : Value) (A : Around) (outer : List Env) (s : Shared) (H : Hp) (E : XK), Room 0 (A.deeper (PyProof.Rows.envOfC "is_number" (defScope (top 1)) s.heap.objs.size (ce K "is_number") cdv)) →
    PSs (cxOf (L2.CX P w) P w K mg base N_is_number "is_number" (defScope (top 1)) (ce K "is_number") cdv A outer s H E) (defBody (top 1)) (sOf K E (m_is_number K)) := by
  intro cdv A outer s H E hr
  have hND : (N_is_number).Nodup := sc_is_number.nd
  exact (ss_one (ss_ret (se_and (se_callB (id := "isinstance") cd_isi rfl W.fr_isinstance (by decide +kernel) (sa_cons (se_var 0 rfl) (sa_cons (se_ty rfl W.fr_int (by decide +kernel)) sa_nil))) (se_one (se_not (se_callB (id := "isinstance") cd_isi rfl W.fr_isinstance (by decide +kernel) (sa_cons (se_var 0 rfl) (sa_cons (se_ty rfl W.fr_bool (by decide +kernel)) sa_nil))))))))
theorem df_is_number {P : Program} {w : World} {K : PySem.W.Frag} {mg : PySem.Str → Option Value} {base : Heap} (W : Fx K mg) : DF P w K mg base "is_number" 1 1 (F_is_number K) := by
  obtain ⟨fd, F⟩ := W.d_is_number
  exact fun_ok F sc_is_number rfl W.g_is_number (fun _ _ _ _ _ _ us hl => match us, hl with | [_], _ => rfl) (m_is_number K) (b_is_number W)
theorem sc_is_below : FnScope N_is_below ["value", "size"] (defScope (top 2)) := ⟨rfl, rfl, rfl, by decide +kernel, rfl, by decide +kernel, by decide +kernel⟩
theorem b_is_below {P : Program} {w : World} {K : PySem.W.Frag} {mg : PySem.Str → Option Value} {base : Heap} (W : Fx K mg) : ∀ (cdv : Value) (A : Around) (outer : List Env) (s : Shared) (H : Hp) (E : XK), Room 1 (A.deeper (PyProof.Rows.envOfC "is_below" (defScope (top 2)) s.heap.objs.size (ce K "is_below") cdv)) →
    PSs (cxOf (L2.CX P w) P w K mg base N_is_below "is_below" (defScope (top 2)) (ce K "is_below") cdv A outer s H E) (defBody (top 2)) (sOf K E (m_is_below K)) := by
  intro cdv A outer s H E hr
  have hND : (N_is_below).Nodup := sc_is_below.nd
  exact (ss_one (ss_ret (se_and (se_call (x := "is_number") (df_is_number W) hr (by decide) passC rfl (sa_cons (se_var 0 rfl) sa_nil)) (se_one (se_chain (od_le) (od_ltA (hu64 hr)) se_int (se_var 0 rfl) (se_var 1 rfl))))))
theorem df_is_below {P : Program} {w : World} {K : PySem.W.Frag} {mg : PySem.Str → Option Value} {base : Heap} (W : Fx K mg) : DF P w K mg base "is_below" 2 2 (F_is_below K) := by
  obtain ⟨fd, F⟩ := W.d_is_below
  exact fun_ok F sc_is_below rfl W.g_is_below (fun _ _ _ _ _ _ us hl => match us, hl with | [_, _], _ => rfl) (m_is_below K) (b_is_below W)
theorem sc_are_numbers : FnScope N_are_numbers ["value"] (defScope (top 3)) := ⟨rfl, rfl, rfl, by decide +kernel, rfl, by decide +kernel, by decide +kernel⟩
theorem b_are_numbers {P : Program} {w : World} {K : PySem.W.Frag} {mg : PySem.Str → Option Value} {base : Heap} (W : Fx K mg) : ∀ (cdv : Value) (A : Around) (outer : List Env) (s : Shared) (H : Hp) (E : XK), Room 1 (A.deeper (PyProof.Rows.envOfC "are_numbers" (defScope (top 3)) s.heap.objs.size (ce K "are_numbers") cdv)) →
    PSs (cxOf (L2.CX P w) P w K mg base N_are_numbers "are_numbers" (defScope (top 3)) (ce K "are_numbers") cdv A outer s H E) (defBody (top 3)) (sOf K E (m_are_numbers K)) := by
  intro cdv A outer s H E hr
  have hND : (N_are_numbers).Nodup := sc_are_numbers.nd
  exact (ss_one (ss_ret (se_and (se_callB (id := "isinstance") cd_isi rfl W.fr_isinstance (by decide +kernel) (sa_cons (se_var 0 rfl) (sa_cons (se_ty rfl W.fr_tuple (by decide +kernel)) sa_nil))) (se_one (se_callB (id := "all") (cd_all rfl) rfl W.fr_all (by decide +kernel) (sa_cons (se_l (sl_lc (own := [("item", 1)]) rfl hND (si_seq (se_var 0 rfl)) (show BlkOk N_are_numbers (defScope (top 3)) _ _ from blkOk_by (by decide +kernel)) (fun _ _ _ _ _ => (sgc_name (by decide) hND rfl (by first | exact Or.inl rfl | exact Or.inr rfl))) (fun _ _ _ _ _ => sts_nil) (fun _ _ _ _ _ => (se_call (x := "is_number") (df_is_number W) hr (by decide) passN rfl (sa_cons (se_var 1 rfl) sa_nil))))) sa_nil))))))
theorem df_are_numbers {P : Program} {w : World} {K : PySem.W.Frag} {mg : PySem.Str → Option Value} {base : Heap} (W : Fx K mg) : DF P w K mg base "are_numbers" 1 2 (F_are_numbers K) := by
  obtain ⟨fd, F⟩ := W.d_are_numbers
  exact fun_ok F sc_are_numbers rfl W.g_are_numbers (fun _ _ _ _ _ _ us hl => match us, hl with | [_], _ => rfl) (m_are_numbers K) (b_are_numbers W)
theorem sc_is_door : FnScope N_is_door ["value", "rooms"] (defScope (top 24)) := ⟨rfl, rfl, rfl, by decide +kernel, rfl, by decide +kernel, by decide +kernel⟩
theorem b_is_door {P : Program} {w : World} {K : PySem.W.Frag} {mg : PySem.Str → Option Value} {base : Heap} (W : Fx K mg) : ∀ (cdv : Value) (A : Around) (outer : List Env) (s : Shared) (H : Hp) (E : XK), Room 2 (A.deeper (PyProof.Rows.envOfC "is_door" (defScope (top 24)) s.heap.objs.size (ce K "is_door") cdv)) →
    PSs (cxOf (L2.CX P w) P w K mg base N_is_door "is_door" (defScope (top 24)) (ce K "is_door") cdv A outer s H E) (defBody (top 24)) (sOf K E (m_is_door K)) := by
  intro cdv A outer s H E hr
  have hND : (N_is_door).Nodup := sc_is_door.nd
  exact (ss_cons (ss_if (te_bool (tw_or (te_not (te_val (se_callB (id := "isinstance") cd_isi rfl W.fr_isinstance (by decide +kernel) (sa_cons (se_var 0 rfl) (sa_cons (se_ty rfl W.fr_tuple (by decide +kernel)) sa_nil))))) (tw_or1 (te_cmp (od_ne (hu64 hr)) (se_callB (id := "len") (cd_len) rfl W.fr_len (by decide +kernel) (sa_cons (se_var 0 rfl) sa_nil)) se_int (nomark _))))) (ss_one (ss_ret se_bl)) ss_nil)
  (ss_cons (ss_asg (se_var 0 rfl) (sg_tup (n := 4) rfl (sgs_cons (sg_name hND rfl (by first | exact Or.inl rfl | exact Or.inr rfl)) (sgs_cons (sg_name hND rfl (by first | exact Or.inl rfl | exact Or.inr rfl)) (sgs_cons (sg_name hND rfl (by first | exact Or.inl rfl | exact Or.inr rfl)) (sgs_cons (sg_name hND rfl (by first | exact Or.inl rfl | exact Or.inr rfl)) sgs_nil))))))
  (ss_cons (ss_if (te_bool (tw_or (te_not (te_val (se_call (x := "is_below") (df_is_below W) hr (by decide) passC rfl (sa_cons (se_var 2 rfl) (sa_cons (se_var 1 rfl) sa_nil))))) (tw_or1 (te_not (te_val (se_call (x := "is_below") (df_is_below W) hr (by decide) passC rfl (sa_cons (se_var 4 rfl) (sa_cons (se_var 1 rfl) sa_nil)))))))) (ss_one (ss_ret se_bl)) ss_nil)
  (ss_one (ss_ret (se_callB (id := "all") (cd_all rfl) rfl W.fr_all (by decide +kernel) (sa_cons (se_l (sl_lc (own := [("item", 6)]) rfl hND (si_seq (se_tup (sa_cons (se_var 3 rfl) (sa_cons (se_var 5 rfl) sa_nil)))) (show BlkOk N_is_door (defScope (top 24)) _ _ from blkOk_by (by decide +kernel)) (fun _ _ _ _ _ => (sgc_name (by decide) hND rfl (by first | exact Or.inl rfl | exact Or.inr rfl))) (fun _ _ _ _ _ => sts_nil) (fun _ _ _ _ _ => (se_and (se_call (x := "is_number") (df_is_number W) hr (by decide) passN rfl (sa_cons (se_var 6 rfl) sa_nil)) (se_and (se_cmp (od_ne (hu64 hr)) (se_var 6 rfl) se_int (nomark _)) (se_one (se_chain (od_le) (od_le) (se_neg (se_gint rfl W.i_GREATEST)) (se_var 6 rfl) (se_gint rfl W.i_GREATEST)))))))) sa_nil)))))))
theorem df_is_door {P : Program} {w : World} {K : PySem.W.Frag} {mg : PySem.Str → Option Value} {base : Heap} (W : Fx K mg) : DF P w K mg base "is_door" 2 3 (F_is_door K) := by
  obtain ⟨fd, F⟩ := W.d_is_door
  exact fun_ok F sc_is_door rfl W.g_is_door (fun _ _ _ _ _ _ us hl => match us, hl with | [_, _], _ => rfl) (m_is_door K) (b_is_door W)
theorem sc_are_doors : FnScope N_are_doors ["value", "rooms"] (defScope (top 25)) := ⟨rfl, rfl, rfl, by decide +kernel, rfl, by decide +kernel, by decide +kernel⟩
theorem b_are_doors {P : Program} {w : World} {K : PySem.W.Frag} {mg : PySem.Str → Option Value} {base : Heap} (W : Fx K mg) : ∀ (cdv : Value) (A : Around) (outer : List Env) (s : Shared) (H : Hp) (E : XK), Room 3 (A.deeper (PyProof.Rows.envOfC "are_doors" (defScope (top 25)) s.heap.objs.size (ce K "are_doors") cdv)) →
    PSs (cxOf (L2.CX P w) P w K mg base N_are_doors "are_doors" (defScope (top 25)) (ce K "are_doors") cdv A outer s H E) (defBody (top 25)) (sOf K E (m_are_doors K)) := by
  intro cdv A outer s H E hr
  have hND : (N_are_doors).Nodup := sc_are_doors.nd
  exact (ss_cons (ss_if (te_bool (tw_or (te_not (te_val (se_callB (id := "isinstance") cd_isi rfl W.fr_isinstance (by decide +kernel) (sa_cons (se_var 0 rfl) (sa_cons (se_ty rfl W.fr_tuple (by decide +kernel)) sa_nil))))) (tw_or1 (te_cmp (od_gt) (se_callB (id := "len") (cd_len) rfl W.fr_len (by decide +kernel) (sa_cons (se_var 0 rfl) sa_nil)) (se_gint rfl W.i_MOST_DOORS) (nomark _))))) (ss_one (ss_ret se_bl)) ss_nil)
  (ss_one (ss_ret (se_callB (id := "all") (cd_all rfl) rfl W.fr_all (by decide +kernel) (sa_cons (se_l (sl_lc (own := [("door", 2)]) rfl hND (si_seq (se_var 0 rfl)) (show BlkOk N_are_doors (defScope (top 25)) _ _ from blkOk_by (by decide +kernel)) (fun _ _ _ _ _ => (sgc_name (by decide) hND rfl (by first | exact Or.inl rfl | exact Or.inr rfl))) (fun _ _ _ _ _ => sts_nil) (fun _ _ _ _ _ => (se_call (x := "is_door") (df_is_door W) hr (by decide) passN rfl (sa_cons (se_var 2 rfl) (sa_cons (se_var 1 rfl) sa_nil)))))) sa_nil)))))
theorem df_are_doors {P : Program} {w : World} {K : PySem.W.Frag} {mg : PySem.Str → Option Value} {base : Heap} (W : Fx K mg) : DF P w K mg base "are_doors" 2 4 (F_are_doors K) := by
  obtain ⟨fd, F⟩ := W.d_are_doors
  exact fun_ok F sc_are_doors rfl W.g_are_doors (fun _ _ _ _ _ _ us hl => match us, hl with | [_, _], _ => rfl) (m_are_doors K) (b_are_doors W)
theorem sc_joined_rooms : FnScope N_joined_rooms ["doors"] (defScope (top 26)) := ⟨rfl, rfl, rfl, by decide +kernel, rfl, by decide +kernel, by decide +kernel⟩
theorem b_joined_rooms {P : Program} {w : World} {K : PySem.W.Frag} {mg : PySem.Str → Option Value} {base : Heap} (W : Fx K mg) : ∀ (cdv : Value) (A : Around) (outer : List Env) (s : Shared) (H : Hp) (E : XK), Room 0 (A.deeper (PyProof.Rows.envOfC "joined_rooms" (defScope (top 26)) s.heap.objs.size (ce K "joined_rooms") cdv)) →
    PSs (cxOf (L2.CX P w) P w K mg base N_joined_rooms "joined_rooms" (defScope (top 26)) (ce K "joined_rooms") cdv A outer s H E) (defBody (top 26)) (sOf K E (m_joined_rooms K)) := by
  intro cdv A outer s H E hr
  have hND : (N_joined_rooms).Nodup := sc_joined_rooms.nd
  exact (ss_cons (ss_par2 (i := 1) (j := 2) rfl hND rfl rfl (by decide) rfl rfl (sr_k (sk_one (kk := .inl 0) (d := .bl true) pe_int pe_bl (fun _ _ _ => .bl _)) (sr_l (sl_lst (sa_cons se_int sa_nil)) sr_nil)) rfl)
  (ss_cons (ss_while FUEL ownC (te_neP 2 (hu64 hr) (se_l (sl_lst sa_nil))) (ss_cons (ss_set (i := 3) hND rfl (by first | exact Or.inl rfl | exact Or.inr rfl) (se_pop 2 rfl (by first | exact Or.inl rfl | exact Or.inr (Or.inl rfl) | exact Or.inr (Or.inr rfl)) (by decide) (by decide) (fun to => tBM0 _ "list" rPop to) (fun to h1 => pe_bm0 PySem.F.plainAttrs_list PySem.F.slot_list_pop PySem.F.type_list_pop mt_pop h1) (fun _ => rfl)))
  (ss_one (ss_for ownC rfl (si_seq (se_var 0 rfl)) (sg_tup (n := 4) rfl (sgs_cons (sg_name hND rfl (by first | exact Or.inl rfl | exact Or.inr rfl)) (sgs_cons (sg_name hND rfl (by first | exact Or.inl rfl | exact Or.inr rfl)) (sgs_cons (sg_name hND rfl (by first | exact Or.inl rfl | exact Or.inr rfl)) (sgs_cons (sg_name hND rfl (by first | exact Or.inl rfl | exact Or.inr rfl)) sgs_nil))))) (ss_one (ss_for ownC rfl (si_seq (se_tup (sa_cons (se_tup (sa_cons (se_var 4 rfl) (sa_cons (se_var 6 rfl) sa_nil))) (sa_cons (se_tup (sa_cons (se_var 6 rfl) (sa_cons (se_var 4 rfl) sa_nil))) sa_nil)))) (sg_tup (n := 2) rfl (sgs_cons (sg_name hND rfl (by first | exact Or.inl rfl | exact Or.inr rfl)) (sgs_cons (sg_name hND rfl (by first | exact Or.inl rfl | exact Or.inr rfl)) sgs_nil))) (ss_one (ss_if (te_bool (tw_and (te_cmp (od_eq (hu64 hr)) (se_var 8 rfl) (se_var 3 rfl) (nomark _)) (tw_and1 (te_dnotin 1 (hu1 hr) (se_var 9 rfl))))) (ss_cons (ss_dput 1 (hu1 hr) (se_var 9 rfl) se_bl)
  (ss_one (ss_expr (se_append 2 (se_var 9 rfl) rfl (by first | exact Or.inl rfl | exact Or.inr (Or.inl rfl) | exact Or.inr (Or.inr rfl)) (by decide) (by decide) rfl (fun to t => tBM _ "list" rAppend to t) (fun to ta h1 h2 => pe_bm PySem.F.plainAttrs_list PySem.F.slot_list_append PySem.F.type_list_append mt_append h1 h2) (fun _ _ => rfl))))) ss_nil))))))))
  (ss_one (ss_ret (se_var 1 rfl)))))
theorem df_joined_rooms {P : Program} {w : World} {K : PySem.W.Frag} {mg : PySem.Str → Option Value} {base : Heap} (W : Fx K mg) : DF P w K mg base "joined_rooms" 1 1 (F_joined_rooms K) := by
  obtain ⟨fd, F⟩ := W.d_joined_rooms
  exact fun_ok F sc_joined_rooms rfl W.g_joined_rooms (fun _ _ _ _ _ _ us hl => match us, hl with | [_], _ => rfl) (m_joined_rooms K) (b_joined_rooms W)
theorem sc_need_house : FnScope N_need_house ["house"] (defScope (top 28)) := ⟨rfl, rfl, rfl, by decide +kernel, rfl, by decide +kernel, by decide +kernel⟩
theorem b_need_house {P : Program} {w : World} {K : PySem.W.Frag} {mg : PySem.Str → Option Value} {base : Heap} (W : Fx K mg) : ∀ (cdv : Value) (A : Around) (outer : List Env) (s : Shared) (H : Hp) (E : XK), Room 0 (A.deeper (PyProof.Rows.envOfC "need_house" (defScope (top 28)) s.heap.objs.size (ce K "need_house") cdv)) →
    PSs (cxOf (L2.CX P w) P w K mg base N_need_house "need_house" (defScope (top 28)) (ce K "need_house") cdv A outer s H E) (defBody (top 28)) (sOf K E (m_need_house K)) := by
  intro cdv A outer s H E hr
  have hND : (N_need_house).Nodup := sc_need_house.nd
  exact (ss_one (ss_if (te_not (te_val (se_callB (id := "isinstance") cd_isi rfl W.fr_isinstance (by decide +kernel) (sa_cons (se_var 0 rfl) (sa_cons (se_glob (x := "House") rfl W.g_House) sa_nil))))) (ss_one (ss_raise (W := fun _ _ _ => False) (x := "BadHouse") rfl takesC W.x_BadHouse.1 W.x_BadHouse.2 rfl)) ss_nil))
theorem df_need_house {P : Program} {w : World} {K : PySem.W.Frag} {mg : PySem.Str → Option Value} {base : Heap} (W : Fx K mg) : DF P w K mg base "need_house" 1 1 (F_need_house K) := by
  obtain ⟨fd, F⟩ := W.d_need_house
  exact fun_ok F sc_need_house rfl W.g_need_house (fun _ _ _ _ _ _ us hl => match us, hl with | [_], _ => rfl) (m_need_house K) (b_need_house W)
theorem sc_need_room : FnScope N_need_room ["house", "room"] (defScope (top 29)) := ⟨rfl, rfl, rfl, by decide +kernel, rfl, by decide +kernel, by decide +kernel⟩
theorem b_need_room {P : Program} {w : World} {K : PySem.W.Frag} {mg : PySem.Str → Option Value} {base : Heap} (W : Fx K mg) : ∀ (cdv : Value) (A : Around) (outer : List Env) (s : Shared) (H : Hp) (E : XK), Room 2 (A.deeper (PyProof.Rows.envOfC "need_room" (defScope (top 29)) s.heap.objs.size (ce K "need_room") cdv)) →
    PSs (cxOf (L2.CX P w) P w K mg base N_need_room "need_room" (defScope (top 29)) (ce K "need_room") cdv A outer s H E) (defBody (top 29)) (sOf K E (m_need_room K)) := by
  intro cdv A outer s H E hr
  have hND : (N_need_room).Nodup := sc_need_room.nd
  exact (ss_one (ss_if (te_not (te_val (se_call (x := "is_below") (df_is_below W) hr (by decide) passC rfl (sa_cons (se_var 1 rfl) (sa_cons (se_fld "House" W.cl_House W.na_House_rooms (se_var 0 rfl)) sa_nil))))) (ss_one (ss_raise (W := fun _ _ _ => False) (x := "BadRoom") rfl takesC W.x_BadRoom.1 W.x_BadRoom.2 rfl)) ss_nil))
theorem df_need_room {P : Program} {w : World} {K : PySem.W.Frag} {mg : PySem.Str → Option Value} {base : Heap} (W : Fx K mg) : DF P w K mg base "need_room" 2 3 (F_need_room K) := by
  obtain ⟨fd, F⟩ := W.d_need_room
  exact fun_ok F sc_need_room rfl W.g_need_room (fun _ _ _ _ _ _ us hl => match us, hl with | [_, _], _ => rfl) (m_need_room K) (b_need_room W)
theorem sc_is_pass : FnScope N_is_pass ["house", "value"] (defScope (top 30)) := ⟨rfl, rfl, rfl, by decide +kernel, rfl, by decide +kernel, by decide +kernel⟩
theorem b_is_pass {P : Program} {w : World} {K : PySem.W.Frag} {mg : PySem.Str → Option Value} {base : Heap} (W : Fx K mg) : ∀ (cdv : Value) (A : Around) (outer : List Env) (s : Shared) (H : Hp) (E : XK), Room 2 (A.deeper (PyProof.Rows.envOfC "is_pass" (defScope (top 30)) s.heap.objs.size (ce K "is_pass") cdv)) →
    PSs (cxOf (L2.CX P w) P w K mg base N_is_pass "is_pass" (defScope (top 30)) (ce K "is_pass") cdv A outer s H E) (defBody (top 30)) (sOf K E (m_is_pass K)) := by
  intro cdv A outer s H E hr
  have hND : (N_is_pass).Nodup := sc_is_pass.nd
  exact (ss_cons (ss_if (te_bool (tw_or (te_not (te_val (se_callB (id := "isinstance") cd_isi rfl W.fr_isinstance (by decide +kernel) (sa_cons (se_var 1 rfl) (sa_cons (se_ty rfl W.fr_tuple (by decide +kernel)) sa_nil))))) (tw_or1 (te_cmp (od_ne (hu64 hr)) (se_callB (id := "len") (cd_len) rfl W.fr_len (by decide +kernel) (sa_cons (se_var 1 rfl) sa_nil)) se_int (nomark _))))) (ss_one (ss_ret se_bl)) ss_nil)
  (ss_one (ss_ret (se_and (se_call (x := "is_below") (df_is_below W) hr (by decide) passC rfl (sa_cons (se_ix (se_var 1 rfl) se_int) (sa_cons (se_callB (id := "len") (cd_len) rfl W.fr_len (by decide +kernel) (sa_cons (se_fld "House" W.cl_House W.na_House_doors (se_var 0 rfl)) sa_nil)) sa_nil))) (se_one (se_call (x := "is_below") (df_is_below W) hr (by decide) passC rfl (sa_cons (se_ix (se_var 1 rfl) se_int) (sa_cons se_int sa_nil))))))))
theorem df_is_pass {P : Program} {w : World} {K : PySem.W.Frag} {mg : PySem.Str → Option Value} {base : Heap} (W : Fx K mg) : DF P w K mg base "is_pass" 2 3 (F_is_pass K) := by
  obtain ⟨fd, F⟩ := W.d_is_pass
  exact fun_ok F sc_is_pass rfl W.g_is_pass (fun _ _ _ _ _ _ us hl => match us, hl with | [_, _], _ => rfl) (m_is_pass K) (b_is_pass W)
theorem sc_gate_of : FnScope N_gate_of ["house", "step"] (defScope (top 31)) := ⟨rfl, rfl, rfl, by decide +kernel, rfl, by decide +kernel, by decide +kernel⟩
theorem b_gate_of {P : Program} {w : World} {K : PySem.W.Frag} {mg : PySem.Str → Option Value} {base : Heap} (W : Fx K mg) : ∀ (cdv : Value) (A : Around) (outer : List Env) (s : Shared) (H : Hp) (E : XK), Room 0 (A.deeper (PyProof.Rows.envOfC "gate_of" (defScope (top 31)) s.heap.objs.size (ce K "gate_of") cdv)) →
    PSs (cxOf (L2.CX P w) P w K mg base N_gate_of "gate_of" (defScope (top 31)) (ce K "gate_of") cdv A outer s H E) (defBody (top 31)) (sOf K E (m_gate_of K)) := by
  intro cdv A outer s H E hr
  have hND : (N_gate_of).Nodup := sc_gate_of.nd
  exact (ss_cons (ss_asg (se_ix (se_fld "House" W.cl_House W.na_House_doors (se_var 0 rfl)) (se_ix (se_var 1 rfl) se_int)) (sg_tup (n := 4) rfl (sgs_cons (sg_name hND rfl (by first | exact Or.inl rfl | exact Or.inr rfl)) (sgs_cons (sg_name hND rfl (by first | exact Or.inl rfl | exact Or.inr rfl)) (sgs_cons (sg_name hND rfl (by first | exact Or.inl rfl | exact Or.inr rfl)) (sgs_cons (sg_name hND rfl (by first | exact Or.inl rfl | exact Or.inr rfl)) sgs_nil))))))
  (ss_one (ss_ret (se_if (te_cmp (od_eq (hu64 hr)) (se_ix (se_var 1 rfl) se_int) se_int (nomark _)) (se_tup (sa_cons (se_var 2 rfl) (sa_cons (se_var 3 rfl) (sa_cons (se_var 4 rfl) (sa_cons (se_var 5 rfl) sa_nil))))) (se_tup (sa_cons (se_var 4 rfl) (sa_cons (se_var 5 rfl) (sa_cons (se_var 2 rfl) (sa_cons (se_var 3 rfl) sa_nil)))))))))
theorem df_gate_of {P : Program} {w : World} {K : PySem.W.Frag} {mg : PySem.Str → Option Value} {base : Heap} (W : Fx K mg) : DF P w K mg base "gate_of" 2 1 (F_gate_of K) := by
  obtain ⟨fd, F⟩ := W.d_gate_of
  exact fun_ok F sc_gate_of rfl W.g_gate_of (fun _ _ _ _ _ _ us hl => match us, hl with | [_, _], _ => rfl) (m_gate_of K) (b_gate_of W)
theorem sc_are_steps : FnScope N_are_steps ["house", "room", "value"] (defScope (top 34)) := ⟨rfl, rfl, rfl, by decide +kernel, rfl, by decide +kernel, by decide +kernel⟩
theorem b_are_steps {P : Program} {w : World} {K : PySem.W.Frag} {mg : PySem.Str → Option Value} {base : Heap} (W : Fx K mg) : ∀ (cdv : Value) (A : Around) (outer : List Env) (s : Shared) (H : Hp) (E : XK), Room 3 (A.deeper (PyProof.Rows.envOfC "are_steps" (defScope (top 34)) s.heap.objs.size (ce K "are_steps") cdv)) →
    PSs (cxOf (L2.CX P w) P w K mg base N_are_steps "are_steps" (defScope (top 34)) (ce K "are_steps") cdv A outer s H E) (defBody (top 34)) (sOf K E (m_are_steps K)) := by
  intro cdv A outer s H E hr
  have hND : (N_are_steps).Nodup := sc_are_steps.nd
  exact (ss_cons (ss_if (te_not (te_val (se_callB (id := "isinstance") cd_isi rfl W.fr_isinstance (by decide +kernel) (sa_cons (se_var 2 rfl) (sa_cons (se_ty rfl W.fr_tuple (by decide +kernel)) sa_nil))))) (ss_one (ss_ret se_bl)) ss_nil)
  (ss_cons (ss_set (i := 3) hND rfl (by first | exact Or.inl rfl | exact Or.inr rfl) (se_var 1 rfl))
  (ss_cons (ss_for ownC rfl (si_seq (se_var 2 rfl)) (sg_name hND rfl (by first | exact Or.inl rfl | exact Or.inr rfl)) (ss_cons (ss_if (te_bool (tw_or (te_not (te_val (se_call (x := "is_pass") (df_is_pass W) hr (by decide) passC rfl (sa_cons (se_var 0 rfl) (sa_cons (se_var 4 rfl) sa_nil))))) (tw_or1 (te_cmp (od_ne (hu64 hr)) (se_ix (se_call (x := "gate_of") (df_gate_of W) hr (by decide) passC rfl (sa_cons (se_var 0 rfl) (sa_cons (se_var 4 rfl) sa_nil))) se_int) (se_var 3 rfl) (nomark _))))) (ss_one (ss_ret se_bl)) ss_nil)
  (ss_one (ss_set (i := 3) hND rfl (by first | exact Or.inl rfl | exact Or.inr rfl) (se_ix (se_call (x := "gate_of") (df_gate_of W) hr (by decide) passC rfl (sa_cons (se_var 0 rfl) (sa_cons (se_var 4 rfl) sa_nil))) se_int)))))
  (ss_one (ss_ret se_bl)))))
theorem df_are_steps {P : Program} {w : World} {K : PySem.W.Frag} {mg : PySem.Str → Option Value} {base : Heap} (W : Fx K mg) : DF P w K mg base "are_steps" 3 4 (F_are_steps K) := by
  obtain ⟨fd, F⟩ := W.d_are_steps
  exact fun_ok F sc_are_steps rfl W.g_are_steps (fun _ _ _ _ _ _ us hl => match us, hl with | [_, _, _], _ => rfl) (m_are_steps K) (b_are_steps W)
theorem sc_is_walk_of : FnScope N_is_walk_of ["house", "value"] (defScope (top 35)) := ⟨rfl, rfl, rfl, by decide +kernel, rfl, by decide +kernel, by decide +kernel⟩
theorem b_is_walk_of {P : Program} {w : World} {K : PySem.W.Frag} {mg : PySem.Str → Option Value} {base : Heap} (W : Fx K mg) : ∀ (cdv : Value) (A : Around) (outer : List Env) (s : Shared) (H : Hp) (E : XK), Room 4 (A.deeper (PyProof.Rows.envOfC "is_walk_of" (defScope (top 35)) s.heap.objs.size (ce K "is_walk_of") cdv)) →
    PSs (cxOf (L2.CX P w) P w K mg base N_is_walk_of "is_walk_of" (defScope (top 35)) (ce K "is_walk_of") cdv A outer s H E) (defBody (top 35)) (sOf K E (m_is_walk_of K)) := by
  intro cdv A outer s H E hr
  have hND : (N_is_walk_of).Nodup := sc_is_walk_of.nd
  exact (ss_cons (ss_if (te_bool (tw_or (te_not (te_val (se_callB (id := "isinstance") cd_isi rfl W.fr_isinstance (by decide +kernel) (sa_cons (se_var 1 rfl) (sa_cons (se_ty rfl W.fr_tuple (by decide +kernel)) sa_nil))))) (tw_or (te_cmp (od_ne (hu64 hr)) (se_callB (id := "len") (cd_len) rfl W.fr_len (by decide +kernel) (sa_cons (se_var 1 rfl) sa_nil)) se_int (nomark _)) (tw_or1 (te_not (te_val (se_call (x := "is_below") (df_is_below W) hr (by decide) passC rfl (sa_cons (se_ix (se_var 1 rfl) se_int) (sa_cons (se_fld "House" W.cl_House W.na_House_rooms (se_var 0 rfl)) sa_nil))))))))) (ss_one (ss_ret se_bl)) ss_nil)
  (ss_cons (ss_asg (se_var 1 rfl) (sg_tup (n := 3) rfl (sgs_cons (sg_name hND rfl (by first | exact Or.inl rfl | exact Or.inr rfl)) (sgs_cons (sg_name hND rfl (by first | exact Or.inl rfl | exact Or.inr rfl)) (sgs_cons (sg_name hND rfl (by first | exact Or.inl rfl | exact Or.inr rfl)) sgs_nil)))))
  (ss_one (ss_ret (se_and (se_call (x := "are_numbers") (df_are_numbers W) hr (by decide) passC rfl (sa_cons (se_var 3 rfl) sa_nil)) (se_and (se_call (x := "are_steps") (df_are_steps W) hr (by decide) passC rfl (sa_cons (se_var 0 rfl) (sa_cons (se_var 2 rfl) (sa_cons (se_var 4 rfl) sa_nil)))) (se_one (se_cmp (od_eq (hu64 hr)) (se_callB (id := "len") (cd_len) rfl W.fr_len (by decide +kernel) (sa_cons (se_var 3 rfl) sa_nil)) (se_op od_add (se_callB (id := "len") (cd_len) rfl W.fr_len (by decide +kernel) (sa_cons (se_var 4 rfl) sa_nil)) se_int) (nomark _)))))))))
theorem df_is_walk_of {P : Program} {w : World} {K : PySem.W.Frag} {mg : PySem.Str → Option Value} {base : Heap} (W : Fx K mg) : DF P w K mg base "is_walk_of" 2 5 (F_is_walk_of K) := by
  obtain ⟨fd, F⟩ := W.d_is_walk_of
  exact fun_ok F sc_is_walk_of rfl W.g_is_walk_of (fun _ _ _ _ _ _ us hl => match us, hl with | [_, _], _ => rfl) (m_is_walk_of K) (b_is_walk_of W)
theorem sc_need_walk : FnScope N_need_walk ["house", "walk"] (defScope (top 36)) := ⟨rfl, rfl, rfl, by decide +kernel, rfl, by decide +kernel, by decide +kernel⟩
theorem b_need_walk {P : Program} {w : World} {K : PySem.W.Frag} {mg : PySem.Str → Option Value} {base : Heap} (W : Fx K mg) : ∀ (cdv : Value) (A : Around) (outer : List Env) (s : Shared) (H : Hp) (E : XK), Room 5 (A.deeper (PyProof.Rows.envOfC "need_walk" (defScope (top 36)) s.heap.objs.size (ce K "need_walk") cdv)) →
    PSs (cxOf (L2.CX P w) P w K mg base N_need_walk "need_walk" (defScope (top 36)) (ce K "need_walk") cdv A outer s H E) (defBody (top 36)) (sOf K E (m_need_walk K)) := by
  intro cdv A outer s H E hr
  have hND : (N_need_walk).Nodup := sc_need_walk.nd
  exact (ss_one (ss_if (te_not (te_val (se_call (x := "is_walk_of") (df_is_walk_of W) hr (by decide) passC rfl (sa_cons (se_var 0 rfl) (sa_cons (se_var 1 rfl) sa_nil))))) (ss_one (ss_raise (W := fun _ _ _ => False) (x := "BadWalk") rfl takesC W.x_BadWalk.1 W.x_BadWalk.2 rfl)) ss_nil))
theorem df_need_walk {P : Program} {w : World} {K : PySem.W.Frag} {mg : PySem.Str → Option Value} {base : Heap} (W : Fx K mg) : DF P w K mg base "need_walk" 2 6 (F_need_walk K) := by
  obtain ⟨fd, F⟩ := W.d_need_walk
  exact fun_ok F sc_need_walk rfl W.g_need_walk (fun _ _ _ _ _ _ us hl => match us, hl with | [_, _], _ => rfl) (m_need_walk K) (b_need_walk W)
theorem sc_end_for : FnScope N_end_for ["house", "walk"] (defScope (top 37)) := ⟨rfl, rfl, rfl, by decide +kernel, rfl, by decide +kernel, by decide +kernel⟩
theorem b_end_for {P : Program} {w : World} {K : PySem.W.Frag} {mg : PySem.Str → Option Value} {base : Heap} (W : Fx K mg) : ∀ (cdv : Value) (A : Around) (outer : List Env) (s : Shared) (H : Hp) (E : XK), Room 1 (A.deeper (PyProof.Rows.envOfC "end_for" (defScope (top 37)) s.heap.objs.size (ce K "end_for") cdv)) →
    PSs (cxOf (L2.CX P w) P w K mg base N_end_for "end_for" (defScope (top 37)) (ce K "end_for") cdv A outer s H E) (defBody (top 37)) (sOf K E (m_end_for K)) := by
  intro cdv A outer s H E hr
  have hND : (N_end_for).Nodup := sc_end_for.nd
  exact (ss_one (ss_ret (se_if (te_cmp (od_ne (hu64 hr)) (se_ix (se_var 1 rfl) se_int) (se_tup sa_nil) (nomark _)) (se_ix (se_call (x := "gate_of") (df_gate_of W) hr (by decide) passC rfl (sa_cons (se_var 0 rfl) (sa_cons (se_ix (se_ix (se_var 1 rfl) se_int) (se_neg se_int)) sa_nil))) se_int) (se_ix (se_var 1 rfl) se_int))))
theorem df_end_for {P : Program} {w : World} {K : PySem.W.Frag} {mg : PySem.Str → Option Value} {base : Heap} (W : Fx K mg) : DF P w K mg base "end_for" 2 2 (F_end_for K) := by
  obtain ⟨fd, F⟩ := W.d_end_for
  exact fun_ok F sc_end_for rfl W.g_end_for (fun _ _ _ _ _ _ us hl => match us, hl with | [_, _], _ => rfl) (m_end_for K) (b_end_for W)
theorem sc_need_home : FnScope N_need_home ["house", "walk"] (defScope (top 38)) := ⟨rfl, rfl, rfl, by decide +kernel, rfl, by decide +kernel, by decide +kernel⟩
theorem b_need_home {P : Program} {w : World} {K : PySem.W.Frag} {mg : PySem.Str → Option Value} {base : Heap} (W : Fx K mg) : ∀ (cdv : Value) (A : Around) (outer : List Env) (s : Shared) (H : Hp) (E : XK), Room 6 (A.deeper (PyProof.Rows.envOfC "need_home" (defScope (top 38)) s.heap.objs.size (ce K "need_home") cdv)) →
    PSs (cxOf (L2.CX P w) P w K mg base N_need_home "need_home" (defScope (top 38)) (ce K "need_home") cdv A outer s H E) (defBody (top 38)) (sOf K E (m_need_home K)) := by
  intro cdv A outer s H E hr
  have hND : (N_need_home).Nodup := sc_need_home.nd
  exact (ss_cons (ss_expr (se_call (x := "need_walk") (df_need_walk W) hr (by decide) passC rfl (sa_cons (se_var 0 rfl) (sa_cons (se_var 1 rfl) sa_nil))))
  (ss_one (ss_if (te_cmp (od_ne (hu64 hr)) (se_call (x := "end_for") (df_end_for W) hr (by decide) passC rfl (sa_cons (se_var 0 rfl) (sa_cons (se_var 1 rfl) sa_nil))) (se_ix (se_var 1 rfl) se_int) (nomark _)) (ss_one (ss_raise (W := fun _ _ _ => False) (x := "NotHome") rfl takesC W.x_NotHome.1 W.x_NotHome.2 rfl)) ss_nil)))
theorem df_need_home {P : Program} {w : World} {K : PySem.W.Frag} {mg : PySem.Str → Option Value} {base : Heap} (W : Fx K mg) : DF P w K mg base "need_home" 2 7 (F_need_home K) := by
  obtain ⟨fd, F⟩ := W.d_need_home
  exact fun_ok F sc_need_home rfl W.g_need_home (fun _ _ _ _ _ _ us hl => match us, hl with | [_, _], _ => rfl) (m_need_home K) (b_need_home W)
theorem sc_join_of : FnScope N_join_of ["one", "other"] (defScope (top 39)) := ⟨rfl, rfl, rfl, by decide +kernel, rfl, by decide +kernel, by decide +kernel⟩
theorem b_join_of {P : Program} {w : World} {K : PySem.W.Frag} {mg : PySem.Str → Option Value} {base : Heap} (W : Fx K mg) : ∀ (cdv : Value) (A : Around) (outer : List Env) (s : Shared) (H : Hp) (E : XK), Room 0 (A.deeper (PyProof.Rows.envOfC "join_of" (defScope (top 39)) s.heap.objs.size (ce K "join_of") cdv)) →
    PSs (cxOf (L2.CX P w) P w K mg base N_join_of "join_of" (defScope (top 39)) (ce K "join_of") cdv A outer s H E) (defBody (top 39)) (sOf K E (m_join_of K)) := by
  intro cdv A outer s H E hr
  have hND : (N_join_of).Nodup := sc_join_of.nd
  exact (ss_cons (ss_set (i := 2) hND rfl (by first | exact Or.inl rfl | exact Or.inr rfl) (se_op od_add (se_ix (se_ix (se_var 0 rfl) se_int) (se_neg se_int)) (se_ix (se_ix (se_var 1 rfl) se_int) se_int)))
  (ss_one (ss_ret (se_tup (sa_cons (se_ix (se_var 0 rfl) se_int) (sa_cons (se_op od_add (se_op od_add (se_slice (se_ix (se_var 0 rfl) se_int) so_none (so_some (se_neg se_int))) (se_tup (sa_cons (se_var 2 rfl) sa_nil))) (se_slice (se_ix (se_var 1 rfl) se_int) (so_some se_int) so_none)) (sa_cons (se_op od_add (se_ix (se_var 0 rfl) se_int) (se_ix (se_var 1 rfl) se_int)) sa_nil)))))))
theorem df_join_of {P : Program} {w : World} {K : PySem.W.Frag} {mg : PySem.Str → Option Value} {base : Heap} (W : Fx K mg) : DF P w K mg base "join_of" 2 1 (F_join_of K) := by
  obtain ⟨fd, F⟩ := W.d_join_of
  exact fun_ok F sc_join_of rfl W.g_join_of (fun _ _ _ _ _ _ us hl => match us, hl with | [_, _], _ => rfl) (m_join_of K) (b_join_of W)
theorem sc_back_of : FnScope N_back_of ["house", "walk"] (defScope (top 40)) := ⟨rfl, rfl, rfl, by decide +kernel, rfl, by decide +kernel, by decide +kernel⟩
theorem b_back_of {P : Program} {w : World} {K : PySem.W.Frag} {mg : PySem.Str → Option Value} {base : Heap} (W : Fx K mg) : ∀ (cdv : Value) (A : Around) (outer : List Env) (s : Shared) (H : Hp) (E : XK), Room 2 (A.deeper (PyProof.Rows.envOfC "back_of" (defScope (top 40)) s.heap.objs.size (ce K "back_of") cdv)) →
    PSs (cxOf (L2.CX P w) P w K mg base N_back_of "back_of" (defScope (top 40)) (ce K "back_of") cdv A outer s H E) (defBody (top 40)) (sOf K E (m_back_of K)) := by
  intro cdv A outer s H E hr
  have hND : (N_back_of).Nodup := sc_back_of.nd
  exact (ss_cons (ss_set (i := 2) hND rfl (by first | exact Or.inl rfl | exact Or.inr rfl) (se_callT (T := "tuple") cd_tuple rfl W.fr_tuple (by decide +kernel) (sa_cons (se_l (sl_lc (own := [("item", 4)]) rfl hND (si_rev rfl W.fr_reversed (se_ix (se_var 1 rfl) se_int)) (show BlkOk N_back_of (defScope (top 40)) _ _ from blkOk_by (by decide +kernel)) (fun _ _ _ _ _ => (sgc_name (by decide) hND rfl (by first | exact Or.inl rfl | exact Or.inr rfl))) (fun _ _ _ _ _ => sts_nil) (fun _ _ _ _ _ => (se_op od_sub se_int (se_var 4 rfl))))) sa_nil)))
  (ss_cons (ss_set (i := 3) hND rfl (by first | exact Or.inl rfl | exact Or.inr rfl) (se_callT (T := "tuple") cd_tuple rfl W.fr_tuple (by decide +kernel) (sa_cons (se_l (sl_lc (own := [("at", 5), ("side", 6)]) rfl hND (si_rev rfl W.fr_reversed (se_ix (se_var 1 rfl) se_int)) (show BlkOk N_back_of (defScope (top 40)) _ _ from blkOk_by (by decide +kernel)) (fun _ _ _ _ _ => (sgc_tup (n := 2) rfl (sgsc_cons (sgc_name (by decide) hND rfl (by first | exact Or.inl rfl | exact Or.inr rfl)) (sgsc_cons (sgc_name (by decide) hND rfl (by first | exact Or.inl rfl | exact Or.inr rfl)) sgsc_nil)))) (fun _ _ _ _ _ => sts_nil) (fun _ _ _ _ _ => (se_tup (sa_cons (se_var 5 rfl) (sa_cons (se_op od_sub se_int (se_var 6 rfl)) sa_nil)))))) sa_nil)))
  (ss_one (ss_ret (se_tup (sa_cons (se_call (x := "end_for") (df_end_for W) hr (by decide) passC rfl (sa_cons (se_var 0 rfl) (sa_cons (se_var 1 rfl) sa_nil))) (sa_cons (se_var 2 rfl) (sa_cons (se_var 3 rfl) sa_nil))))))))
theorem df_back_of {P : Program} {w : World} {K : PySem.W.Frag} {mg : PySem.Str → Option Value} {base : Heap} (W : Fx K mg) : DF P w K mg base "back_of" 2 3 (F_back_of K) := by
  obtain ⟨fd, F⟩ := W.d_back_of
  exact fun_ok F sc_back_of rfl W.g_back_of (fun _ _ _ _ _ _ us hl => match us, hl with | [_, _], _ => rfl) (m_back_of K) (b_back_of W)
theorem sc_standing_in : FnScope N_standing_in ["room"] (defScope (top 41)) := ⟨rfl, rfl, rfl, by decide +kernel, rfl, by decide +kernel, by decide +kernel⟩
theorem b_standing_in {P : Program} {w : World} {K : PySem.W.Frag} {mg : PySem.Str → Option Value} {base : Heap} (W : Fx K mg) : ∀ (cdv : Value) (A : Around) (outer : List Env) (s : Shared) (H : Hp) (E : XK), Room 0 (A.deeper (PyProof.Rows.envOfC "standing_in" (defScope (top 41)) s.heap.objs.size (ce K "standing_in") cdv)) →
    PSs (cxOf (L2.CX P w) P w K mg base N_standing_in "standing_in" (defScope (top 41)) (ce K "standing_in") cdv A outer s H E) (defBody (top 41)) (sOf K E (m_standing_in K)) := by
  intro cdv A outer s H E hr
  have hND : (N_standing_in).Nodup := sc_standing_in.nd
  exact (ss_one (ss_ret (se_tup (sa_cons (se_var 0 rfl) (sa_cons (se_tup (sa_cons se_int sa_nil)) (sa_cons (se_tup sa_nil) sa_nil))))))
theorem df_standing_in {P : Program} {w : World} {K : PySem.W.Frag} {mg : PySem.Str → Option Value} {base : Heap} (W : Fx K mg) : DF P w K mg base "standing_in" 1 1 (F_standing_in K) := by
  obtain ⟨fd, F⟩ := W.d_standing_in
  exact fun_ok F sc_standing_in rfl W.g_standing_in (fun _ _ _ _ _ _ us hl => match us, hl with | [_], _ => rfl) (m_standing_in K) (b_standing_in W)
theorem sc_joined : FnScope N_joined ["house", "one", "other"] (defScope (top 42)) := ⟨rfl, rfl, rfl, by decide +kernel, rfl, by decide +kernel, by decide +kernel⟩
theorem b_joined {P : Program} {w : World} {K : PySem.W.Frag} {mg : PySem.Str → Option Value} {base : Heap} (W : Fx K mg) : ∀ (cdv : Value) (A : Around) (outer : List Env) (s : Shared) (H : Hp) (E : XK), Room 6 (A.deeper (PyProof.Rows.envOfC "joined" (defScope (top 42)) s.heap.objs.size (ce K "joined") cdv)) →
    PSs (cxOf (L2.CX P w) P w K mg base N_joined "joined" (defScope (top 42)) (ce K "joined") cdv A outer s H E) (defBody (top 42)) (sOf K E (m_joined K)) := by
  intro cdv A outer s H E hr
  have hND : (N_joined).Nodup := sc_joined.nd
  exact (ss_cons (ss_expr (se_call (x := "need_house") (df_need_house W) hr (by decide) passC rfl (sa_cons (se_var 0 rfl) sa_nil)))
  (ss_cons (ss_expr (se_call (x := "need_walk") (df_need_walk W) hr (by decide) passC rfl (sa_cons (se_var 0 rfl) (sa_cons (se_var 1 rfl) sa_nil))))
  (ss_cons (ss_expr (se_call (x := "need_walk") (df_need_walk W) hr (by decide) passC rfl (sa_cons (se_var 0 rfl) (sa_cons (se_var 2 rfl) sa_nil))))
  (ss_cons (ss_if (te_cmp (od_ne (hu64 hr)) (se_ix (se_var 2 rfl) se_int) (se_call (x := "end_for") (df_end_for W) hr (by decide) passC rfl (sa_cons (se_var 0 rfl) (sa_cons (se_var 1 rfl) sa_nil))) (nomark _)) (ss_one (ss_raise (W := fun _ _ _ => False) (x := "Elsewhere") rfl takesC W.x_Elsewhere.1 W.x_Elsewhere.2 rfl)) ss_nil)
  (ss_one (ss_ret (se_call (x := "join_of") (df_join_of W) hr (by decide) passC rfl (sa_cons (se_var 1 rfl) (sa_cons (se_var 2 rfl) sa_nil)))))))))
theorem df_joined {P : Program} {w : World} {K : PySem.W.Frag} {mg : PySem.Str → Option Value} {base : Heap} (W : Fx K mg) : DF P w K mg base "joined" 3 7 (F_joined K) := by
  obtain ⟨fd, F⟩ := W.d_joined
  exact fun_ok F sc_joined rfl W.g_joined (fun _ _ _ _ _ _ us hl => match us, hl with | [_, _, _], _ => rfl) (m_joined K) (b_joined W)
theorem sc_back : FnScope N_back ["house", "walk"] (defScope (top 43)) := ⟨rfl, rfl, rfl, by decide +kernel, rfl, by decide +kernel, by decide +kernel⟩
theorem b_back {P : Program} {w : World} {K : PySem.W.Frag} {mg : PySem.Str → Option Value} {base : Heap} (W : Fx K mg) : ∀ (cdv : Value) (A : Around) (outer : List Env) (s : Shared) (H : Hp) (E : XK), Room 6 (A.deeper (PyProof.Rows.envOfC "back" (defScope (top 43)) s.heap.objs.size (ce K "back") cdv)) →
    PSs (cxOf (L2.CX P w) P w K mg base N_back "back" (defScope (top 43)) (ce K "back") cdv A outer s H E) (defBody (top 43)) (sOf K E (m_back K)) := by
  intro cdv A outer s H E hr
  have hND : (N_back).Nodup := sc_back.nd
  exact (ss_cons (ss_expr (se_call (x := "need_house") (df_need_house W) hr (by decide) passC rfl (sa_cons (se_var 0 rfl) sa_nil)))
  (ss_cons (ss_expr (se_call (x := "need_walk") (df_need_walk W) hr (by decide) passC rfl (sa_cons (se_var 0 rfl) (sa_cons (se_var 1 rfl) sa_nil))))
  (ss_one (ss_ret (se_call (x := "back_of") (df_back_of W) hr (by decide) passC rfl (sa_cons (se_var 0 rfl) (sa_cons (se_var 1 rfl) sa_nil)))))))
theorem df_back {P : Program} {w : World} {K : PySem.W.Frag} {mg : PySem.Str → Option Value} {base : Heap} (W : Fx K mg) : DF P w K mg base "back" 2 7 (F_back K) := by
  obtain ⟨fd, F⟩ := W.d_back
  exact fun_ok F sc_back rfl W.g_back (fun _ _ _ _ _ _ us hl => match us, hl with | [_, _], _ => rfl) (m_back K) (b_back W)
theorem sc_standing : FnScope N_standing ["house", "room"] (defScope (top 44)) := ⟨rfl, rfl, rfl, by decide +kernel, rfl, by decide +kernel, by decide +kernel⟩
theorem b_standing {P : Program} {w : World} {K : PySem.W.Frag} {mg : PySem.Str → Option Value} {base : Heap} (W : Fx K mg) : ∀ (cdv : Value) (A : Around) (outer : List Env) (s : Shared) (H : Hp) (E : XK), Room 3 (A.deeper (PyProof.Rows.envOfC "standing" (defScope (top 44)) s.heap.objs.size (ce K "standing") cdv)) →
    PSs (cxOf (L2.CX P w) P w K mg base N_standing "standing" (defScope (top 44)) (ce K "standing") cdv A outer s H E) (defBody (top 44)) (sOf K E (m_standing K)) := by
  intro cdv A outer s H E hr
  have hND : (N_standing).Nodup := sc_standing.nd
  exact (ss_cons (ss_expr (se_call (x := "need_house") (df_need_house W) hr (by decide) passC rfl (sa_cons (se_var 0 rfl) sa_nil)))
  (ss_cons (ss_expr (se_call (x := "need_room") (df_need_room W) hr (by decide) passC rfl (sa_cons (se_var 0 rfl) (sa_cons (se_var 1 rfl) sa_nil))))
  (ss_one (ss_ret (se_call (x := "standing_in") (df_standing_in W) hr (by decide) passC rfl (sa_cons (se_var 1 rfl) sa_nil))))))
theorem df_standing {P : Program} {w : World} {K : PySem.W.Frag} {mg : PySem.Str → Option Value} {base : Heap} (W : Fx K mg) : DF P w K mg base "standing" 2 4 (F_standing K) := by
  obtain ⟨fd, F⟩ := W.d_standing
  exact fun_ok F sc_standing rfl W.g_standing (fun _ _ _ _ _ _ us hl => match us, hl with | [_, _], _ => rfl) (m_standing K) (b_standing W)
theorem sc_power : FnScope N_power ["house", "walk", "times"] (defScope (top 45)) := ⟨rfl, rfl, rfl, by decide +kernel, rfl, by decide +kernel, by decide +kernel⟩
theorem b_power {P : Program} {w : World} {K : PySem.W.Frag} {mg : PySem.Str → Option Value} {base : Heap} (W : Fx K mg) : ∀ (cdv : Value) (A : Around) (outer : List Env) (s : Shared) (H : Hp) (E : XK), Room 7 (A.deeper (PyProof.Rows.envOfC "power" (defScope (top 45)) s.heap.objs.size (ce K "power") cdv)) →
    PSs (cxOf (L2.CX P w) P w K mg base N_power "power" (defScope (top 45)) (ce K "power") cdv A outer s H E) (defBody (top 45)) (sOf K E (m_power K)) := by
  intro cdv A outer s H E hr
  have hND : (N_power).Nodup := sc_power.nd
  exact (ss_cons (ss_expr (se_call (x := "need_house") (df_need_house W) hr (by decide) passC rfl (sa_cons (se_var 0 rfl) sa_nil)))
  (ss_cons (ss_expr (se_call (x := "need_home") (df_need_home W) hr (by decide) passC rfl (sa_cons (se_var 0 rfl) (sa_cons (se_var 1 rfl) sa_nil))))
  (ss_cons (ss_if (te_bool (tw_or (te_not (te_val (se_call (x := "is_number") (df_is_number W) hr (by decide) passC rfl (sa_cons (se_var 2 rfl) sa_nil)))) (tw_or1 (te_not (te_chain (od_le) (od_le) (se_neg (se_gint rfl W.i_MOST_TIMES)) (se_var 2 rfl) (se_gint rfl W.i_MOST_TIMES)))))) (ss_one (ss_raise (W := fun _ _ _ => False) (x := "BadTimes") rfl takesC W.x_BadTimes.1 W.x_BadTimes.2 rfl)) ss_nil)
  (ss_cons (ss_set (i := 3) hND rfl (by first | exact Or.inl rfl | exact Or.inr rfl) (se_if (te_cmp (od_gt) (se_var 2 rfl) se_int (nomark _)) (se_var 1 rfl) (se_call (x := "back_of") (df_back_of W) hr (by decide) passC rfl (sa_cons (se_var 0 rfl) (sa_cons (se_var 1 rfl) sa_nil)))))
  (ss_cons (ss_set (i := 4) hND rfl (by first | exact Or.inl rfl | exact Or.inr rfl) (se_call (x := "standing_in") (df_standing_in W) hr (by decide) passC rfl (sa_cons (se_ix (se_var 1 rfl) se_int) sa_nil)))
  (ss_cons (ss_for ownC rfl (PI_range1 rfl W.fr_range (sa_cons (se_callB (id := "abs") (cd_abs) rfl W.fr_abs (by decide +kernel) (sa_cons (se_var 2 rfl) sa_nil)) sa_nil)) (sg_name hND rfl (by first | exact Or.inl rfl | exact Or.inr rfl)) (ss_one (ss_set (i := 4) hND rfl (by first | exact Or.inl rfl | exact Or.inr rfl) (se_call (x := "join_of") (df_join_of W) hr (by decide) passC rfl (sa_cons (se_var 4 rfl) (sa_cons (se_var 3 rfl) sa_nil))))))
  (ss_one (ss_ret (se_var 4 rfl)))))))))
theorem df_power {P : Program} {w : World} {K : PySem.W.Frag} {mg : PySem.Str → Option Value} {base : Heap} (W : Fx K mg) : DF P w K mg base "power" 3 8 (F_power K) := by
  obtain ⟨fd, F⟩ := W.d_power
  exact fun_ok F sc_power rfl W.g_power (fun _ _ _ _ _ _ us hl => match us, hl with | [_, _, _], _ => rfl) (m_power K) (b_power W)
theorem sc__law_blended : FnScope N__law_blended ["state"] (defScope (top 48)) := ⟨rfl, rfl, rfl, by decide +kernel, rfl, by decide +kernel, by decide +kernel⟩
theorem b__law_blended {P : Program} {w : World} {K : PySem.W.Frag} {mg : PySem.Str → Option Value} {base : Heap} (W : Fx K mg) : ∀ (cdv : Value) (A : Around) (outer : List Env) (s : Shared) (H : Hp) (E : XK), Room 0 (A.deeper (PyProof.Rows.envOfC "_law_blended" (defScope (top 48)) s.heap.objs.size (ce K "_law_blended") cdv)) →
    PSs (cxOf (L2.CX P w) P w K mg base N__law_blended "_law_blended" (defScope (top 48)) (ce K "_law_blended") cdv A outer s H E) (defBody (top 48)) (sOf K E (m__law_blended K)) := by
  intro cdv A outer s H E hr
  have hND : (N__law_blended).Nodup := sc__law_blended.nd
  exact (ss_cons (ss_par2 (i := 1) (j := 2) rfl hND rfl rfl (by decide) rfl rfl (sr_v (se_op od_add (se_stget .turn (hu1 hr) (se_var 0 rfl)) se_int) (sr_v se_int sr_nil)) rfl)
  (ss_cons (ss_stput .turn (hu1 hr) (se_var 0 rfl) (se_var 1 rfl))
  (ss_cons (ss_for ownC rfl (si_seq (se_l (sl_lst (sa_cons se_int (sa_cons se_int (sa_cons se_int sa_nil)))))) (sg_name hND rfl (by first | exact Or.inl rfl | exact Or.inr rfl)) (ss_cons (ss_set (i := 4) hND rfl (by first | exact Or.inl rfl | exact Or.inr rfl) (se_op od_add (se_op od_mul se_int (se_var 1 rfl)) (se_op od_div (se_var 3 rfl) se_int)))
  (ss_cons (ss_for ownC rfl (si_seq (se_stget .cells (hu1 hr) (se_var 0 rfl))) (sg_name hND rfl (by first | exact Or.inl rfl | exact Or.inr rfl)) (ss_one (ss_set (i := 4) hND rfl (by first | exact Or.inl rfl | exact Or.inr rfl) (se_op od_mod (se_callT (T := "int") cd_int rfl W.fr_int (by decide +kernel) (sa_cons (se_op od_add (se_op od_add (se_op od_mul (se_var 4 rfl) se_int) (se_var 5 rfl)) (se_var 1 rfl)) sa_nil)) (se_var 3 rfl)))))
  (ss_one (ss_set (i := 2) hND rfl (by first | exact Or.inl rfl | exact Or.inr rfl) (se_op od_add (se_op od_mul (se_var 2 rfl) se_int) (se_op od_mod (se_callT (T := "int") cd_int rfl W.fr_int (by decide +kernel) (sa_cons (se_op od_pow (se_var 4 rfl) se_int) sa_nil)) (se_var 3 rfl))))))))
  (ss_one (ss_ret (se_var 2 rfl))))))
theorem df__law_blended {P : Program} {w : World} {K : PySem.W.Frag} {mg : PySem.Str → Option Value} {base : Heap} (W : Fx K mg) : DF P w K mg base "_law_blended" 1 1 (F__law_blended K) := by
  obtain ⟨fd, F⟩ := W.d__law_blended
  exact fun_ok F sc__law_blended rfl W.g__law_blended (fun _ _ _ _ _ _ us hl => match us, hl with | [_], _ => rfl) (m__law_blended K) (b__law_blended W)
theorem sc__law_draw : FnScope N__law_draw ["state", "size_here"] (defScope (top 49)) := ⟨rfl, rfl, rfl, by decide +kernel, rfl, by decide +kernel, by decide +kernel⟩
theorem b__law_draw {P : Program} {w : World} {K : PySem.W.Frag} {mg : PySem.Str → Option Value} {base : Heap} (W : Fx K mg) : ∀ (cdv : Value) (A : Around) (outer : List Env) (s : Shared) (H : Hp) (E : XK), Room 1 (A.deeper (PyProof.Rows.envOfC "_law_draw" (defScope (top 49)) s.heap.objs.size (ce K "_law_draw") cdv)) →
    PSs (cxOf (L2.CX P w) P w K mg base N__law_draw "_law_draw" (defScope (top 49)) (ce K "_law_draw") cdv A outer s H E) (defBody (top 49)) (sOf K E (m__law_draw K)) := by
  intro cdv A outer s H E hr
  have hND : (N__law_draw).Nodup := sc__law_draw.nd
  exact (ss_cons (ss_if (te_cmp (od_eq (hu64 hr)) (se_stget .left (hu1 hr) (se_var 0 rfl)) se_int (nomark _)) (ss_one (ss_stput .left (hu1 hr) (se_var 0 rfl) (se_if (te_greatNe (hu64 hr) (se_stget .great (hu1 hr) (se_var 0 rfl)) (se_l (sl_lst sa_nil))) (se_popGreat (se_stget .great (hu1 hr) (se_var 0 rfl)) se_int rfl (fun to t => tBM _ "list" rPopAt to t) (fun to ta h1 h2 => pe_bm PySem.F.plainAttrs_list PySem.F.slot_list_pop PySem.F.type_list_pop mt_popAt h1 h2) (fun _ _ => rfl)) (se_call (x := "_law_blended") (df__law_blended W) hr (by decide) passC rfl (sa_cons (se_var 0 rfl) sa_nil))))) ss_nil)
  (ss_cons (ss_set (i := 2) hND rfl (by first | exact Or.inl rfl | exact Or.inr rfl) (se_op od_mod (se_callT (T := "int") cd_int rfl W.fr_int (by decide +kernel) (sa_cons (se_stget .left (hu1 hr) (se_var 0 rfl)) sa_nil)) (se_var 1 rfl)))
  (ss_cons (ss_stput .left (hu1 hr) (se_var 0 rfl) (se_op od_div (se_stget .left (hu1 hr) (se_var 0 rfl)) (se_var 1 rfl)))
  (ss_one (ss_ret (se_var 2 rfl))))))
theorem df__law_draw {P : Program} {w : World} {K : PySem.W.Frag} {mg : PySem.Str → Option Value} {base : Heap} (W : Fx K mg) : DF P w K mg base "_law_draw" 2 2 (F__law_draw K) := by
  obtain ⟨fd, F⟩ := W.d__law_draw
  exact fun_ok F sc__law_draw rfl W.g__law_draw (fun _ _ _ _ _ _ us hl => match us, hl with | [_, _], _ => rfl) (m__law_draw K) (b__law_draw W)
theorem sc__law_pick : FnScope N__law_pick ["state", "several"] (defScope (top 50)) := ⟨rfl, rfl, rfl, by decide +kernel, rfl, by decide +kernel, by decide +kernel⟩
theorem b__law_pick {P : Program} {w : World} {K : PySem.W.Frag} {mg : PySem.Str → Option Value} {base : Heap} (W : Fx K mg) : ∀ (cdv : Value) (A : Around) (outer : List Env) (s : Shared) (H : Hp) (E : XK), Room 2 (A.deeper (PyProof.Rows.envOfC "_law_pick" (defScope (top 50)) s.heap.objs.size (ce K "_law_pick") cdv)) →
    PSs (cxOf (L2.CX P w) P w K mg base N__law_pick "_law_pick" (defScope (top 50)) (ce K "_law_pick") cdv A outer s H E) (defBody (top 50)) (sOf K E (m__law_pick K)) := by
  intro cdv A outer s H E hr
  have hND : (N__law_pick).Nodup := sc__law_pick.nd
  exact (ss_one (ss_ret (se_ixP 1 (se_call (x := "_law_draw") (df__law_draw W) hr (by decide) passC rfl (sa_cons (se_var 0 rfl) (sa_cons (se_lenP 1 rfl W.fr_len) sa_nil))))))
theorem df__law_pick {P : Program} {w : World} {K : PySem.W.Frag} {mg : PySem.Str → Option Value} {base : Heap} (W : Fx K mg) : DF P w K mg base "_law_pick" 2 3 (F__law_pick K) := by
  obtain ⟨fd, F⟩ := W.d__law_pick
  exact fun_ok F sc__law_pick rfl W.g__law_pick (fun _ _ _ _ _ _ us hl => match us, hl with | [_, _], _ => rfl) (m__law_pick K) (b__law_pick W)
theorem dfb__law_pick {P : Program} {w : World} {K : PySem.W.Frag} {mg : PySem.Str → Option Value} {base : Heap} (W : Fx K mg) : DFB P w K mg base "_law_pick" 2 3 (FB__law_pick K) := by
  obtain ⟨fd, F⟩ := W.d__law_pick
  exact dfb_ok F sc__law_pick rfl W.g__law_pick (fun _ _ _ _ _ _ us hl => match us, hl with | [_, _], _ => rfl) (m__law_pick K) (b__law_pick W) fun ds es S hl _ => by unfold FB__law_pick; rw [splitL_last]; rfl
theorem sc__law_mixed : FnScope N__law_mixed ["state", "several"] (defScope (top 51)) := ⟨rfl, rfl, rfl, by decide +kernel, rfl, by decide +kernel, by decide +kernel⟩
theorem b__law_mixed {P : Program} {w : World} {K : PySem.W.Frag} {mg : PySem.Str → Option Value} {base : Heap} (W : Fx K mg) : ∀ (cdv : Value) (A : Around) (outer : List Env) (s : Shared) (H : Hp) (E : XK), Room 2 (A.deeper (PyProof.Rows.envOfC "_law_mixed" (defScope (top 51)) s.heap.objs.size (ce K "_law_mixed") cdv)) →
    PSs (cxOf (L2.CX P w) P w K mg base N__law_mixed "_law_mixed" (defScope (top 51)) (ce K "_law_mixed") cdv A outer s H E) (defBody (top 51)) (sOf K E (m__law_mixed K)) := by
  intro cdv A outer s H E hr
  have hND : (N__law_mixed).Nodup := sc__law_mixed.nd
  exact (ss_cons (ss_par2 (i := 2) (j := 3) rfl hND rfl rfl (by decide) rfl rfl (sr_l (sl_list rfl W.fr_list (sa_cons (se_var 1 rfl) sa_nil)) (sr_l (sl_lst sa_nil) sr_nil)) rfl)
  (ss_cons (ss_while FUEL ownC (te_neP 2 (hu64 hr) (se_l (sl_lst sa_nil))) (ss_one (ss_expr (se_append 3 (se_popAt 2 (se_call (x := "_law_draw") (df__law_draw W) hr (by decide) passC rfl (sa_cons (se_var 0 rfl) (sa_cons (se_lenP 2 rfl W.fr_len) sa_nil))) rfl (by first | exact Or.inl rfl | exact Or.inr (Or.inl rfl) | exact Or.inr (Or.inr rfl)) (by decide) (by decide) rfl (fun to t => tBM _ "list" rPopAt to t) (fun to ta h1 h2 => pe_bm PySem.F.plainAttrs_list PySem.F.slot_list_pop PySem.F.type_list_pop mt_popAt h1 h2) (fun _ _ => rfl)) rfl (by first | exact Or.inl rfl | exact Or.inr (Or.inl rfl) | exact Or.inr (Or.inr rfl)) (by decide) (by decide) rfl (fun to t => tBM _ "list" rAppend to t) (fun to ta h1 h2 => pe_bm PySem.F.plainAttrs_list PySem.F.slot_list_append PySem.F.type_list_append mt_append h1 h2) (fun _ _ => rfl)))))
  (ss_one (ss_ret (se_var 3 rfl)))))
theorem df__law_mixed {P : Program} {w : World} {K : PySem.W.Frag} {mg : PySem.Str → Option Value} {base : Heap} (W : Fx K mg) : DF P w K mg base "_law_mixed" 2 3 (F__law_mixed K) := by
  obtain ⟨fd, F⟩ := W.d__law_mixed
  exact fun_ok F sc__law_mixed rfl W.g__law_mixed (fun _ _ _ _ _ _ us hl => match us, hl with | [_, _], _ => rfl) (m__law_mixed K) (b__law_mixed W)
theorem sc__law_odd : FnScope N__law_odd ["state"] (defScope (top 53)) := ⟨rfl, rfl, rfl, by decide +kernel, rfl, by decide +kernel, by decide +kernel⟩
theorem b__law_odd {P : Program} {w : World} {K : PySem.W.Frag} {mg : PySem.Str → Option Value} {base : Heap} (W : Fx K mg) : ∀ (cdv : Value) (A : Around) (outer : List Env) (s : Shared) (H : Hp) (E : XK), Room 3 (A.deeper (PyProof.Rows.envOfC "_law_odd" (defScope (top 53)) s.heap.objs.size (ce K "_law_odd") cdv)) →
    PSs (cxOf (L2.CX P w) P w K mg base N__law_odd "_law_odd" (defScope (top 53)) (ce K "_law_odd") cdv A outer s H E) (defBody (top 53)) (sOf K E (m__law_odd K)) := by
  intro cdv A outer s H E hr
  have hND : (N__law_odd).Nodup := sc__law_odd.nd
  exact (ss_one (ss_ret (se_call (x := "_law_pick") (df__law_pick W) hr (by decide) passC rfl (sa_cons (se_var 0 rfl) (sa_cons (se_l (sl_lst (sa_cons se_non (sa_cons se_int (sa_cons (se_neg se_int) (sa_cons se_bl (sa_cons se_str (sa_cons se_str (sa_cons (se_tup sa_nil) (sa_cons (se_l (sl_lst sa_nil)) (sa_cons (se_k sk_new) (sa_cons (se_tup (sa_cons se_int sa_nil)) (sa_cons (se_tup (sa_cons (se_tup (sa_cons se_int sa_nil)) sa_nil)) (sa_cons (se_tup (sa_cons se_str sa_nil)) (sa_cons (se_tup (sa_cons se_str (sa_cons se_str sa_nil))) (sa_cons (se_op od_pow se_int se_int) sa_nil)))))))))))))))) sa_nil)))))
theorem df__law_odd {P : Program} {w : World} {K : PySem.W.Frag} {mg : PySem.Str → Option Value} {base : Heap} (W : Fx K mg) : DF P w K mg base "_law_odd" 1 4 (F__law_odd K) := by
  obtain ⟨fd, F⟩ := W.d__law_odd
  exact fun_ok F sc__law_odd rfl W.g__law_odd (fun _ _ _ _ _ _ us hl => match us, hl with | [_], _ => rfl) (m__law_odd K) (b__law_odd W)
theorem sc__law_rc_number : FnScope N__law_rc_number ["state"] (defScope (top 54)) := ⟨rfl, rfl, rfl, by decide +kernel, rfl, by decide +kernel, by decide +kernel⟩
theorem b__law_rc_number {P : Program} {w : World} {K : PySem.W.Frag} {mg : PySem.Str → Option Value} {base : Heap} (W : Fx K mg) : ∀ (cdv : Value) (A : Around) (outer : List Env) (s : Shared) (H : Hp) (E : XK), Room 3 (A.deeper (PyProof.Rows.envOfC "_law_rc_number" (defScope (top 54)) s.heap.objs.size (ce K "_law_rc_number") cdv)) →
    PSs (cxOf (L2.CX P w) P w K mg base N__law_rc_number "_law_rc_number" (defScope (top 54)) (ce K "_law_rc_number") cdv A outer s H E) (defBody (top 54)) (sOf K E (m__law_rc_number K)) := by
  intro cdv A outer s H E hr
  have hND : (N__law_rc_number).Nodup := sc__law_rc_number.nd
  exact (ss_one (ss_ret (se_call (x := "_law_pick") (df__law_pick W) hr (by decide) passC rfl (sa_cons (se_var 0 rfl) (sa_cons (se_l (sl_lst (sa_cons se_int (sa_cons se_int (sa_cons se_int (sa_cons se_int (sa_cons se_int (sa_cons se_int (sa_cons se_int (sa_cons (se_neg se_int) (sa_cons (se_neg se_int) (sa_cons (se_neg se_int) (sa_cons se_int (sa_cons se_int sa_nil)))))))))))))) sa_nil)))))
theorem df__law_rc_number {P : Program} {w : World} {K : PySem.W.Frag} {mg : PySem.Str → Option Value} {base : Heap} (W : Fx K mg) : DF P w K mg base "_law_rc_number" 1 4 (F__law_rc_number K) := by
  unfold F__law_rc_number
  obtain ⟨fd, F⟩ := W.d__law_rc_number
  exact fun_ok F sc__law_rc_number rfl W.g__law_rc_number (fun _ _ _ _ _ _ us hl => match us, hl with | [_], _ => rfl) (m__law_rc_number K) (b__law_rc_number W)
theorem sc__law_rc_doors : FnScope N__law_rc_doors ["state", "rooms", "more"] (defScope (top 55)) := ⟨rfl, rfl, rfl, by decide +kernel, rfl, by decide +kernel, by decide +kernel⟩
theorem b__law_rc_doors {P : Program} {w : World} {K : PySem.W.Frag} {mg : PySem.Str → Option Value} {base : Heap} (W : Fx K mg) : ∀ (cdv : Value) (A : Around) (outer : List Env) (s : Shared) (H : Hp) (E : XK), Room 4 (A.deeper (PyProof.Rows.envOfC "_law_rc_doors" (defScope (top 55)) s.heap.objs.size (ce K "_law_rc_doors") cdv)) →
    PSs (cxOf (L2.CX P w) P w K mg base N__law_rc_doors "_law_rc_doors" (defScope (top 55)) (ce K "_law_rc_doors") cdv A outer s H E) (defBody (top 55)) (sOf K E (m__law_rc_doors K)) := by
  intro cdv A outer s H E hr
  have hND : (N__law_rc_doors).Nodup := sc__law_rc_doors.nd
  exact (ss_cons (ss_setL (i := 3) hND rfl (by first | exact Or.inl rfl | exact Or.inr rfl) (sl_lst sa_nil))
  (ss_cons (ss_for ownC rfl (PI_range2 rfl W.fr_range (sa_cons se_int (sa_cons (se_var 1 rfl) sa_nil))) (sg_name hND rfl (by first | exact Or.inl rfl | exact Or.inr rfl)) (ss_cons (ss_set (i := 5) hND rfl (by first | exact Or.inl rfl | exact Or.inr rfl) (se_call (x := "_law_draw") (df__law_draw W) hr (by decide) passC rfl (sa_cons (se_var 0 rfl) (sa_cons (se_var 4 rfl) sa_nil))))
  (ss_cons (ss_par2 (i := 6) (j := 7) rfl hND rfl rfl (by decide) rfl rfl (sr_v (se_call (x := "_law_rc_number") (df__law_rc_number W) hr (by decide) passC rfl (sa_cons (se_var 0 rfl) sa_nil)) (sr_v (se_call (x := "_law_rc_number") (df__law_rc_number W) hr (by decide) passC rfl (sa_cons (se_var 0 rfl) sa_nil)) sr_nil)) rfl)
  (ss_one (ss_expr (se_append 3 (se_if (te_cmp (od_eq (hu64 hr)) (se_call (x := "_law_draw") (df__law_draw W) hr (by decide) passC rfl (sa_cons (se_var 0 rfl) (sa_cons se_int sa_nil))) se_int (nomark _)) (se_tup (sa_cons (se_var 5 rfl) (sa_cons (se_var 6 rfl) (sa_cons (se_var 4 rfl) (sa_cons (se_var 7 rfl) sa_nil))))) (se_tup (sa_cons (se_var 4 rfl) (sa_cons (se_var 7 rfl) (sa_cons (se_var 5 rfl) (sa_cons (se_var 6 rfl) sa_nil)))))) rfl (by first | exact Or.inl rfl | exact Or.inr (Or.inl rfl) | exact Or.inr (Or.inr rfl)) (by decide) (by decide) rfl (fun to t => tBM _ "list" rAppend to t) (fun to ta h1 h2 => pe_bm PySem.F.plainAttrs_list PySem.F.slot_list_append PySem.F.type_list_append mt_append h1 h2) (fun _ _ => rfl)))))))
  (ss_cons (ss_for ownC rfl (PI_range1 rfl W.fr_range (sa_cons (se_call (x := "_law_draw") (df__law_draw W) hr (by decide) passC rfl (sa_cons (se_var 0 rfl) (sa_cons (se_op od_add (se_var 2 rfl) se_int) sa_nil))) sa_nil)) (sg_name hND rfl (by first | exact Or.inl rfl | exact Or.inr rfl)) (ss_cons (ss_set (i := 9) hND rfl (by first | exact Or.inl rfl | exact Or.inr rfl) (se_and (se_neP 3 (hu64 hr) (se_l (sl_lst sa_nil))) (se_one (se_cmp (od_eq (hu64 hr)) (se_call (x := "_law_draw") (df__law_draw W) hr (by decide) passC rfl (sa_cons (se_var 0 rfl) (sa_cons se_int sa_nil))) se_int (nomark _)))))
  (ss_one (ss_expr (se_append 3 (se_if (te_val (se_var 9 rfl)) (se_callBor (x := "_law_pick") ((dfb__law_pick W)) hr (by decide) passC rfl (sab_cons (se_var 0 rfl) (sab_last 3))) (se_tup (sa_cons (se_call (x := "_law_draw") (df__law_draw W) hr (by decide) passC rfl (sa_cons (se_var 0 rfl) (sa_cons (se_var 1 rfl) sa_nil))) (sa_cons (se_call (x := "_law_rc_number") (df__law_rc_number W) hr (by decide) passC rfl (sa_cons (se_var 0 rfl) sa_nil)) (sa_cons (se_call (x := "_law_draw") (df__law_draw W) hr (by decide) passC rfl (sa_cons (se_var 0 rfl) (sa_cons (se_var 1 rfl) sa_nil))) (sa_cons (se_call (x := "_law_rc_number") (df__law_rc_number W) hr (by decide) passC rfl (sa_cons (se_var 0 rfl) sa_nil)) sa_nil)))))) rfl (by first | exact Or.inl rfl | exact Or.inr (Or.inl rfl) | exact Or.inr (Or.inr rfl)) (by decide) (by decide) rfl (fun to t => tBM _ "list" rAppend to t) (fun to ta h1 h2 => pe_bm PySem.F.plainAttrs_list PySem.F.slot_list_append PySem.F.type_list_append mt_append h1 h2) (fun _ _ => rfl))))))
  (ss_one (ss_ret (se_callT (T := "tuple") cd_tuple rfl W.fr_tuple (by decide +kernel) (sa_cons (se_call (x := "_law_mixed") (df__law_mixed W) hr (by decide) passC rfl (sa_cons (se_var 0 rfl) (sa_cons (se_var 3 rfl) sa_nil))) sa_nil)))))))
theorem df__law_rc_doors {P : Program} {w : World} {K : PySem.W.Frag} {mg : PySem.Str → Option Value} {base : Heap} (W : Fx K mg) : DF P w K mg base "_law_rc_doors" 3 5 (F__law_rc_doors K) := by
  unfold F__law_rc_doors
  obtain ⟨fd, F⟩ := W.d__law_rc_doors
  exact fun_ok F sc__law_rc_doors rfl W.g__law_rc_doors (fun _ _ _ _ _ _ us hl => match us, hl with | [_, _, _], _ => rfl) (m__law_rc_doors K) (b__law_rc_doors W)
theorem sc__law_rc_told : FnScope N__law_rc_told ["state"] (defScope (top 56)) := ⟨rfl, rfl, rfl, by decide +kernel, rfl, by decide +kernel, by decide +kernel⟩
theorem b__law_rc_told {P : Program} {w : World} {K : PySem.W.Frag} {mg : PySem.Str → Option Value} {base : Heap} (W : Fx K mg) : ∀ (cdv : Value) (A : Around) (outer : List Env) (s : Shared) (H : Hp) (E : XK), Room 5 (A.deeper (PyProof.Rows.envOfC "_law_rc_told" (defScope (top 56)) s.heap.objs.size (ce K "_law_rc_told") cdv)) →
    PSs (cxOf (L2.CX P w) P w K mg base N__law_rc_told "_law_rc_told" (defScope (top 56)) (ce K "_law_rc_told") cdv A outer s H E) (defBody (top 56)) (sOf K E (m__law_rc_told K)) := by
  intro cdv A outer s H E hr
  have hND : (N__law_rc_told).Nodup := sc__law_rc_told.nd
  exact (ss_cons (ss_set (i := 1) hND rfl (by first | exact Or.inl rfl | exact Or.inr rfl) (se_call (x := "_law_pick") (df__law_pick W) hr (by decide) passC rfl (sa_cons (se_var 0 rfl) (sa_cons (se_l (sl_lst (sa_cons se_int (sa_cons se_int (sa_cons se_int (sa_cons se_int (sa_cons se_int sa_nil))))))) sa_nil))))
  (ss_one (ss_ret (se_tup (sa_cons (se_var 1 rfl) (sa_cons (se_call (x := "_law_rc_doors") (df__law_rc_doors W) hr (by decide) passC rfl (sa_cons (se_var 0 rfl) (sa_cons (se_var 1 rfl) (sa_cons (se_if (te_cmp (od_gt) (se_var 1 rfl) se_int (nomark _)) se_int se_int) sa_nil)))) sa_nil))))))
theorem df__law_rc_told {P : Program} {w : World} {K : PySem.W.Frag} {mg : PySem.Str → Option Value} {base : Heap} (W : Fx K mg) : DF P w K mg base "_law_rc_told" 1 6 (F__law_rc_told K) := by
  unfold F__law_rc_told
  obtain ⟨fd, F⟩ := W.d__law_rc_told
  exact fun_ok F sc__law_rc_told rfl W.g__law_rc_told (fun _ _ _ _ _ _ us hl => match us, hl with | [_], _ => rfl) (m__law_rc_told K) (b__law_rc_told W)
theorem sc__law_rc_gate : FnScope N__law_rc_gate ["doors", "step"] (defScope (top 57)) := ⟨rfl, rfl, rfl, by decide +kernel, rfl, by decide +kernel, by decide +kernel⟩
theorem b__law_rc_gate {P : Program} {w : World} {K : PySem.W.Frag} {mg : PySem.Str → Option Value} {base : Heap} (W : Fx K mg) : ∀ (cdv : Value) (A : Around) (outer : List Env) (s : Shared) (H : Hp) (E : XK), Room 0 (A.deeper (PyProof.Rows.envOfC "_law_rc_gate" (defScope (top 57)) s.heap.objs.size (ce K "_law_rc_gate") cdv)) →
    PSs (cxOf (L2.CX P w) P w K mg base N__law_rc_gate "_law_rc_gate" (defScope (top 57)) (ce K "_law_rc_gate") cdv A outer s H E) (defBody (top 57)) (sOf K E (m__law_rc_gate K)) := by
  intro cdv A outer s H E hr
  have hND : (N__law_rc_gate).Nodup := sc__law_rc_gate.nd
  exact (ss_cons (ss_asg (se_ix (se_var 0 rfl) (se_ix (se_var 1 rfl) se_int)) (sg_tup (n := 4) rfl (sgs_cons (sg_name hND rfl (by first | exact Or.inl rfl | exact Or.inr rfl)) (sgs_cons (sg_name hND rfl (by first | exact Or.inl rfl | exact Or.inr rfl)) (sgs_cons (sg_name hND rfl (by first | exact Or.inl rfl | exact Or.inr rfl)) (sgs_cons (sg_name hND rfl (by first | exact Or.inl rfl | exact Or.inr rfl)) sgs_nil))))))
  (ss_one (ss_ret (se_if (te_cmp (od_eq (hu64 hr)) (se_ix (se_var 1 rfl) se_int) se_int (nomark _)) (se_tup (sa_cons (se_var 2 rfl) (sa_cons (se_var 3 rfl) (sa_cons (se_var 4 rfl) (sa_cons (se_var 5 rfl) sa_nil))))) (se_tup (sa_cons (se_var 4 rfl) (sa_cons (se_var 5 rfl) (sa_cons (se_var 2 rfl) (sa_cons (se_var 3 rfl) sa_nil)))))))))
theorem df__law_rc_gate {P : Program} {w : World} {K : PySem.W.Frag} {mg : PySem.Str → Option Value} {base : Heap} (W : Fx K mg) : DF P w K mg base "_law_rc_gate" 2 1 (F__law_rc_gate K) := by
  unfold F__law_rc_gate
  obtain ⟨fd, F⟩ := W.d__law_rc_gate
  exact fun_ok F sc__law_rc_gate rfl W.g__law_rc_gate (fun _ _ _ _ _ _ us hl => match us, hl with | [_, _], _ => rfl) (m__law_rc_gate K) (b__law_rc_gate W)
theorem sc__law_rc_from : FnScope N__law_rc_from ["doors", "room"] (defScope (top 58)) := ⟨rfl, rfl, rfl, by decide +kernel, rfl, by decide +kernel, by decide +kernel⟩
theorem b__law_rc_from {P : Program} {w : World} {K : PySem.W.Frag} {mg : PySem.Str → Option Value} {base : Heap} (W : Fx K mg) : ∀ (cdv : Value) (A : Around) (outer : List Env) (s : Shared) (H : Hp) (E : XK), Room 1 (A.deeper (PyProof.Rows.envOfC "_law_rc_from" (defScope (top 58)) s.heap.objs.size (ce K "_law_rc_from") cdv)) →
    PSs (cxOf (L2.CX P w) P w K mg base N__law_rc_from "_law_rc_from" (defScope (top 58)) (ce K "_law_rc_from") cdv A outer s H E) (defBody (top 58)) (sOf K E (m__law_rc_from K)) := by
  intro cdv A outer s H E hr
  have hND : (N__law_rc_from).Nodup := sc__law_rc_from.nd
  exact (ss_cons (ss_set (i := 2) hND rfl (by first | exact Or.inl rfl | exact Or.inr rfl) (se_l (sl_lst sa_nil)))
  (ss_cons (ss_for ownC rfl (PI_range1 rfl W.fr_range (sa_cons (se_callB (id := "len") (cd_len) rfl W.fr_len (by decide +kernel) (sa_cons (se_var 0 rfl) sa_nil)) sa_nil)) (sg_name hND rfl (by first | exact Or.inl rfl | exact Or.inr rfl)) (ss_one (ss_set (i := 2) hND rfl (by first | exact Or.inl rfl | exact Or.inr rfl) (se_op od_add (se_var 2 rfl) (se_l (sl_lc (own := [("side", 4)]) rfl hND (si_seq (se_l (sl_lst (sa_cons se_int (sa_cons se_int sa_nil))))) (show BlkOk N__law_rc_from (defScope (top 58)) _ _ from blkOk_by (by decide +kernel)) (fun _ _ _ _ _ => (sgc_name (by decide) hND rfl (by first | exact Or.inl rfl | exact Or.inr rfl))) (fun _ _ _ _ _ => (sts_one (te_cmp (od_eq (hu64 hr)) (se_ix (se_call (x := "_law_rc_gate") (df__law_rc_gate W) hr (by decide) passN rfl (sa_cons (se_var 0 rfl) (sa_cons (se_tup (sa_cons (se_var 3 rfl) (sa_cons (se_var 4 rfl) sa_nil))) sa_nil))) se_int) (se_var 1 rfl) (nomark _)))) (fun _ _ _ _ _ => (se_tup (sa_cons (se_var 3 rfl) (sa_cons (se_var 4 rfl) sa_nil))))))))))
  (ss_one (ss_ret (se_var 2 rfl)))))
theorem df__law_rc_from {P : Program} {w : World} {K : PySem.W.Frag} {mg : PySem.Str → Option Value} {base : Heap} (W : Fx K mg) : DF P w K mg base "_law_rc_from" 2 2 (F__law_rc_from K) := by
  unfold F__law_rc_from
  obtain ⟨fd, F⟩ := W.d__law_rc_from
  exact fun_ok F sc__law_rc_from rfl W.g__law_rc_from (fun _ _ _ _ _ _ us hl => match us, hl with | [_, _], _ => rfl) (m__law_rc_from K) (b__law_rc_from W)
theorem sc__law_rc_turned : FnScope N__law_rc_turned ["step"] (defScope (top 59)) := ⟨rfl, rfl, rfl, by decide +kernel, rfl, by decide +kernel, by decide +kernel⟩
theorem b__law_rc_turned {P : Program} {w : World} {K : PySem.W.Frag} {mg : PySem.Str → Option Value} {base : Heap} (W : Fx K mg) : ∀ (cdv : Value) (A : Around) (outer : List Env) (s : Shared) (H : Hp) (E : XK), Room 0 (A.deeper (PyProof.Rows.envOfC "_law_rc_turned" (defScope (top 59)) s.heap.objs.size (ce K "_law_rc_turned") cdv)) →
    PSs (cxOf (L2.CX P w) P w K mg base N__law_rc_turned "_law_rc_turned" (defScope (top 59)) (ce K "_law_rc_turned") cdv A outer s H E) (defBody (top 59)) (sOf K E (m__law_rc_turned K)) := by
  intro cdv A outer s H E hr
  have hND : (N__law_rc_turned).Nodup := sc__law_rc_turned.nd
  exact (ss_one (ss_ret (se_tup (sa_cons (se_ix (se_var 0 rfl) se_int) (sa_cons (se_op od_sub se_int (se_ix (se_var 0 rfl) se_int)) sa_nil)))))
theorem df__law_rc_turned {P : Program} {w : World} {K : PySem.W.Frag} {mg : PySem.Str → Option Value} {base : Heap} (W : Fx K mg) : DF P w K mg base "_law_rc_turned" 1 1 (F__law_rc_turned K) := by
  unfold F__law_rc_turned
  obtain ⟨fd, F⟩ := W.d__law_rc_turned
  exact fun_ok F sc__law_rc_turned rfl W.g__law_rc_turned (fun _ _ _ _ _ _ us hl => match us, hl with | [_], _ => rfl) (m__law_rc_turned K) (b__law_rc_turned W)
theorem sc__law_rc_end : FnScope N__law_rc_end ["doors", "walk"] (defScope (top 60)) := ⟨rfl, rfl, rfl, by decide +kernel, rfl, by decide +kernel, by decide +kernel⟩
theorem b__law_rc_end {P : Program} {w : World} {K : PySem.W.Frag} {mg : PySem.Str → Option Value} {base : Heap} (W : Fx K mg) : ∀ (cdv : Value) (A : Around) (outer : List Env) (s : Shared) (H : Hp) (E : XK), Room 1 (A.deeper (PyProof.Rows.envOfC "_law_rc_end" (defScope (top 60)) s.heap.objs.size (ce K "_law_rc_end") cdv)) →
    PSs (cxOf (L2.CX P w) P w K mg base N__law_rc_end "_law_rc_end" (defScope (top 60)) (ce K "_law_rc_end") cdv A outer s H E) (defBody (top 60)) (sOf K E (m__law_rc_end K)) := by
  intro cdv A outer s H E hr
  have hND : (N__law_rc_end).Nodup := sc__law_rc_end.nd
  exact (ss_one (ss_ret (se_if (te_cmp (od_ne (hu64 hr)) (se_ix (se_var 1 rfl) se_int) (se_tup sa_nil) (nomark _)) (se_ix (se_call (x := "_law_rc_gate") (df__law_rc_gate W) hr (by decide) passC rfl (sa_cons (se_var 0 rfl) (sa_cons (se_ix (se_ix (se_var 1 rfl) se_int) (se_neg se_int)) sa_nil))) se_int) (se_ix (se_var 1 rfl) se_int))))
theorem df__law_rc_end {P : Program} {w : World} {K : PySem.W.Frag} {mg : PySem.Str → Option Value} {base : Heap} (W : Fx K mg) : DF P w K mg base "_law_rc_end" 2 2 (F__law_rc_end K) := by
  unfold F__law_rc_end
  obtain ⟨fd, F⟩ := W.d__law_rc_end
  exact fun_ok F sc__law_rc_end rfl W.g__law_rc_end (fun _ _ _ _ _ _ us hl => match us, hl with | [_, _], _ => rfl) (m__law_rc_end K) (b__law_rc_end W)
theorem sc__law_rc_pulls : FnScope N__law_rc_pulls ["state"] (defScope (top 61)) := ⟨rfl, rfl, rfl, by decide +kernel, rfl, by decide +kernel, by decide +kernel⟩
theorem b__law_rc_pulls {P : Program} {w : World} {K : PySem.W.Frag} {mg : PySem.Str → Option Value} {base : Heap} (W : Fx K mg) : ∀ (cdv : Value) (A : Around) (outer : List Env) (s : Shared) (H : Hp) (E : XK), Room 3 (A.deeper (PyProof.Rows.envOfC "_law_rc_pulls" (defScope (top 61)) s.heap.objs.size (ce K "_law_rc_pulls") cdv)) →
    PSs (cxOf (L2.CX P w) P w K mg base N__law_rc_pulls "_law_rc_pulls" (defScope (top 61)) (ce K "_law_rc_pulls") cdv A outer s H E) (defBody (top 61)) (sOf K E (m__law_rc_pulls K)) := by
  intro cdv A outer s H E hr
  have hND : (N__law_rc_pulls).Nodup := sc__law_rc_pulls.nd
  exact (ss_one (ss_ret (se_call (x := "_law_pick") (df__law_pick W) hr (by decide) passC rfl (sa_cons (se_var 0 rfl) (sa_cons (se_l (sl_lst (sa_cons se_int (sa_cons se_int (sa_cons se_int (sa_cons (se_neg se_int) (sa_cons se_int (sa_cons se_int (sa_cons se_int (sa_cons se_int (sa_cons (se_neg se_int) (sa_cons se_int (sa_cons se_int (sa_cons se_int sa_nil)))))))))))))) sa_nil)))))
theorem df__law_rc_pulls {P : Program} {w : World} {K : PySem.W.Frag} {mg : PySem.Str → Option Value} {base : Heap} (W : Fx K mg) : DF P w K mg base "_law_rc_pulls" 1 4 (F__law_rc_pulls K) := by
  unfold F__law_rc_pulls
  obtain ⟨fd, F⟩ := W.d__law_rc_pulls
  exact fun_ok F sc__law_rc_pulls rfl W.g__law_rc_pulls (fun _ _ _ _ _ _ us hl => match us, hl with | [_], _ => rfl) (m__law_rc_pulls K) (b__law_rc_pulls W)
theorem sc__law_rc_walk : FnScope N__law_rc_walk ["state", "doors", "room", "many"] (defScope (top 62)) := ⟨rfl, rfl, rfl, by decide +kernel, rfl, by decide +kernel, by decide +kernel⟩
theorem b__law_rc_walk {P : Program} {w : World} {K : PySem.W.Frag} {mg : PySem.Str → Option Value} {base : Heap} (W : Fx K mg) : ∀ (cdv : Value) (A : Around) (outer : List Env) (s : Shared) (H : Hp) (E : XK), Room 4 (A.deeper (PyProof.Rows.envOfC "_law_rc_walk" (defScope (top 62)) s.heap.objs.size (ce K "_law_rc_walk") cdv)) →
    PSs (cxOf (L2.CX P w) P w K mg base N__law_rc_walk "_law_rc_walk" (defScope (top 62)) (ce K "_law_rc_walk") cdv A outer s H E) (defBody (top 62)) (sOf K E (m__law_rc_walk K)) := by
  intro cdv A outer s H E hr
  have hND : (N__law_rc_walk).Nodup := sc__law_rc_walk.nd
  exact (ss_cons (ss_par2 (i := 4) (j := 5) rfl hND rfl rfl (by decide) rfl rfl (sr_l (sl_lst sa_nil) (sr_v (se_var 2 rfl) sr_nil)) rfl)
  (ss_cons (ss_for ownC rfl (PI_range1 rfl W.fr_range (sa_cons (se_var 3 rfl) sa_nil)) (sg_name hND rfl (by first | exact Or.inl rfl | exact Or.inr rfl)) (ss_cons (ss_set (i := 7) hND rfl (by first | exact Or.inl rfl | exact Or.inr rfl) (se_call (x := "_law_rc_from") (df__law_rc_from W) hr (by decide) passC rfl (sa_cons (se_var 1 rfl) (sa_cons (se_var 5 rfl) sa_nil))))
  (ss_cons (ss_if (te_cmp (od_eq (hu64 hr)) (se_var 7 rfl) (se_l (sl_lst sa_nil)) (nomark _)) (ss_one ss_break) ss_nil)
  (ss_cons (ss_set (i := 8) hND rfl (by first | exact Or.inl rfl | exact Or.inr rfl) (se_if (te_bool (tw_and (te_neP 4 (hu64 hr) (se_l (sl_lst sa_nil))) (tw_and1 (te_cmp (od_eq (hu64 hr)) (se_call (x := "_law_draw") (df__law_draw W) hr (by decide) passC rfl (sa_cons (se_var 0 rfl) (sa_cons se_int sa_nil))) se_int (nomark _))))) (se_call (x := "_law_rc_turned") (df__law_rc_turned W) hr (by decide) passC rfl (sa_cons (se_ixP 4 (se_neg se_int)) sa_nil)) (se_call (x := "_law_pick") (df__law_pick W) hr (by decide) passC rfl (sa_cons (se_var 0 rfl) (sa_cons (se_var 7 rfl) sa_nil)))))
  (ss_cons (ss_expr (se_append 4 (se_var 8 rfl) rfl (by first | exact Or.inl rfl | exact Or.inr (Or.inl rfl) | exact Or.inr (Or.inr rfl)) (by decide) (by decide) rfl (fun to t => tBM _ "list" rAppend to t) (fun to ta h1 h2 => pe_bm PySem.F.plainAttrs_list PySem.F.slot_list_append PySem.F.type_list_append mt_append h1 h2) (fun _ _ => rfl)))
  (ss_one (ss_set (i := 5) hND rfl (by first | exact Or.inl rfl | exact Or.inr rfl) (se_ix (se_call (x := "_law_rc_gate") (df__law_rc_gate W) hr (by decide) passC rfl (sa_cons (se_var 1 rfl) (sa_cons (se_var 8 rfl) sa_nil))) se_int))))))))
  (ss_one (ss_ret (se_tup (sa_cons (se_var 2 rfl) (sa_cons (se_callT (T := "tuple") cd_tuple rfl W.fr_tuple (by decide +kernel) (sa_cons (se_l (sl_lc (own := [("lap", 6)]) rfl hND (PI_range1 rfl W.fr_range (sa_cons (se_op od_add (se_lenP 4 rfl W.fr_len) se_int) sa_nil)) (show BlkOk N__law_rc_walk (defScope (top 62)) _ _ from blkOk_by (by decide +kernel)) (fun _ _ _ _ _ => (sgc_name (by decide) hND rfl (by first | exact Or.inl rfl | exact Or.inr rfl))) (fun _ _ _ _ _ => sts_nil) (fun _ _ _ _ _ => (se_call (x := "_law_rc_pulls") (df__law_rc_pulls W) hr (by decide) passN rfl (sa_cons (se_var 0 rfl) sa_nil))))) sa_nil)) (sa_cons (se_callT (T := "tuple") cd_tuple rfl W.fr_tuple (by decide +kernel) (sa_cons (se_var 4 rfl) sa_nil)) sa_nil))))))))
theorem df__law_rc_walk {P : Program} {w : World} {K : PySem.W.Frag} {mg : PySem.Str → Option Value} {base : Heap} (W : Fx K mg) : DF P w K mg base "_law_rc_walk" 4 5 (F__law_rc_walk K) := by
  unfold F__law_rc_walk
  obtain ⟨fd, F⟩ := W.d__law_rc_walk
  exact fun_ok F sc__law_rc_walk rfl W.g__law_rc_walk (fun _ _ _ _ _ _ us hl => match us, hl with | [_, _, _, _], _ => rfl) (m__law_rc_walk K) (b__law_rc_walk W)
theorem sc__law_rc_road : FnScope N__law_rc_road ["rooms", "doors", "room", "there"] (defScope (top 63)) := ⟨rfl, rfl, rfl, by decide +kernel, rfl, by decide +kernel, by decide +kernel⟩
theorem b__law_rc_road {P : Program} {w : World} {K : PySem.W.Frag} {mg : PySem.Str → Option Value} {base : Heap} (W : Fx K mg) : ∀ (cdv : Value) (A : Around) (outer : List Env) (s : Shared) (H : Hp) (E : XK), Room 2 (A.deeper (PyProof.Rows.envOfC "_law_rc_road" (defScope (top 63)) s.heap.objs.size (ce K "_law_rc_road") cdv)) →
    PSs (cxOf (L2.CX P w) P w K mg base N__law_rc_road "_law_rc_road" (defScope (top 63)) (ce K "_law_rc_road") cdv A outer s H E) (defBody (top 63)) (sOf K E (m__law_rc_road K)) := by
  intro cdv A outer s H E hr
  have hND : (N__law_rc_road).Nodup := sc__law_rc_road.nd
  exact (ss_cons (ss_par2 (i := 4) (j := 5) rfl hND rfl rfl (by decide) rfl rfl (sr_k (sk_oneE (se_var 2 rfl) (se_tup sa_nil)) (sr_l (sl_lst (sa_cons (se_var 2 rfl) sa_nil)) sr_nil)) rfl)
  (ss_cons (ss_for ownC rfl (PI_range1 rfl W.fr_range (sa_cons (se_var 0 rfl) sa_nil)) (sg_name hND rfl (by first | exact Or.inl rfl | exact Or.inr rfl)) (ss_cons (ss_if (te_eqP 5 (hu64 hr) (se_l (sl_lst sa_nil))) (ss_one ss_break) ss_nil)
  (ss_cons (ss_set (i := 7) hND rfl (by first | exact Or.inl rfl | exact Or.inr rfl) (se_popAt 5 se_int rfl (by first | exact Or.inl rfl | exact Or.inr (Or.inl rfl) | exact Or.inr (Or.inr rfl)) (by decide) (by decide) rfl (fun to t => tBM _ "list" rPopAt to t) (fun to ta h1 h2 => pe_bm PySem.F.plainAttrs_list PySem.F.slot_list_pop PySem.F.type_list_pop mt_popAt h1 h2) (fun _ _ => rfl)))
  (ss_one (ss_for ownC rfl (si_seq (se_call (x := "_law_rc_from") (df__law_rc_from W) hr (by decide) passC rfl (sa_cons (se_var 1 rfl) (sa_cons (se_var 7 rfl) sa_nil)))) (sg_name hND rfl (by first | exact Or.inl rfl | exact Or.inr rfl)) (ss_cons (ss_set (i := 9) hND rfl (by first | exact Or.inl rfl | exact Or.inr rfl) (se_ix (se_call (x := "_law_rc_gate") (df__law_rc_gate W) hr (by decide) passC rfl (sa_cons (se_var 1 rfl) (sa_cons (se_var 8 rfl) sa_nil))) se_int))
  (ss_one (ss_if (te_dnotin 4 (hu1 hr) (se_var 9 rfl)) (ss_cons (ss_dput 4 (hu1 hr) (se_var 9 rfl) (se_op od_add (se_dixP 4 (hu1 hr) (se_var 7 rfl)) (se_tup (sa_cons (se_var 8 rfl) sa_nil))))
  (ss_one (ss_expr (se_append 5 (se_var 9 rfl) rfl (by first | exact Or.inl rfl | exact Or.inr (Or.inl rfl) | exact Or.inr (Or.inr rfl)) (by decide) (by decide) rfl (fun to t => tBM _ "list" rAppend to t) (fun to ta h1 h2 => pe_bm PySem.F.plainAttrs_list PySem.F.slot_list_append PySem.F.type_list_append mt_append h1 h2) (fun _ _ => rfl))))) ss_nil))))))))
  (ss_one (ss_ret (se_dixP 4 (hu1 hr) (se_var 3 rfl))))))
theorem df__law_rc_road {P : Program} {w : World} {K : PySem.W.Frag} {mg : PySem.Str → Option Value} {base : Heap} (W : Fx K mg) : DF P w K mg base "_law_rc_road" 4 3 (F__law_rc_road K) := by
  unfold F__law_rc_road
  obtain ⟨fd, F⟩ := W.d__law_rc_road
  exact fun_ok F sc__law_rc_road rfl W.g__law_rc_road (fun _ _ _ _ _ _ us hl => match us, hl with | [_, _, _, _], _ => rfl) (m__law_rc_road K) (b__law_rc_road W)
theorem sc__law_rc_home : FnScope N__law_rc_home ["state", "told", "room", "many"] (defScope (top 64)) := ⟨rfl, rfl, rfl, by decide +kernel, rfl, by decide +kernel, by decide +kernel⟩
theorem b__law_rc_home {P : Program} {w : World} {K : PySem.W.Frag} {mg : PySem.Str → Option Value} {base : Heap} (W : Fx K mg) : ∀ (cdv : Value) (A : Around) (outer : List Env) (s : Shared) (H : Hp) (E : XK), Room 5 (A.deeper (PyProof.Rows.envOfC "_law_rc_home" (defScope (top 64)) s.heap.objs.size (ce K "_law_rc_home") cdv)) →
    PSs (cxOf (L2.CX P w) P w K mg base N__law_rc_home "_law_rc_home" (defScope (top 64)) (ce K "_law_rc_home") cdv A outer s H E) (defBody (top 64)) (sOf K E (m__law_rc_home K)) := by
  intro cdv A outer s H E hr
  have hND : (N__law_rc_home).Nodup := sc__law_rc_home.nd
  exact (ss_cons (ss_asg (se_var 1 rfl) (sg_tup (n := 2) rfl (sgs_cons (sg_name hND rfl (by first | exact Or.inl rfl | exact Or.inr rfl)) (sgs_cons (sg_name hND rfl (by first | exact Or.inl rfl | exact Or.inr rfl)) sgs_nil))))
  (ss_cons (ss_set (i := 6) hND rfl (by first | exact Or.inl rfl | exact Or.inr rfl) (se_call (x := "_law_rc_walk") (df__law_rc_walk W) hr (by decide) passC rfl (sa_cons (se_var 0 rfl) (sa_cons (se_var 5 rfl) (sa_cons (se_var 2 rfl) (sa_cons (se_var 3 rfl) sa_nil))))))
  (ss_cons (ss_set (i := 7) hND rfl (by first | exact Or.inl rfl | exact Or.inr rfl) (se_call (x := "_law_rc_road") (df__law_rc_road W) hr (by decide) passC rfl (sa_cons (se_var 4 rfl) (sa_cons (se_var 5 rfl) (sa_cons (se_call (x := "_law_rc_end") (df__law_rc_end W) hr (by decide) passC rfl (sa_cons (se_var 5 rfl) (sa_cons (se_var 6 rfl) sa_nil))) (sa_cons (se_var 2 rfl) sa_nil))))))
  (ss_one (ss_ret (se_tup (sa_cons (se_var 2 rfl) (sa_cons (se_op od_add (se_ix (se_var 6 rfl) se_int) (se_callT (T := "tuple") cd_tuple rfl W.fr_tuple (by decide +kernel) (sa_cons (se_l (sl_lc (own := [("step", 8)]) rfl hND (si_seq (se_var 7 rfl)) (show BlkOk N__law_rc_home (defScope (top 64)) _ _ from blkOk_by (by decide +kernel)) (fun _ _ _ _ _ => (sgc_name (by decide) hND rfl (by first | exact Or.inl rfl | exact Or.inr rfl))) (fun _ _ _ _ _ => sts_nil) (fun _ _ _ _ _ => (se_call (x := "_law_rc_pulls") (df__law_rc_pulls W) hr (by decide) passN rfl (sa_cons (se_var 0 rfl) sa_nil))))) sa_nil))) (sa_cons (se_op od_add (se_ix (se_var 6 rfl) se_int) (se_var 7 rfl)) sa_nil)))))))))
theorem df__law_rc_home {P : Program} {w : World} {K : PySem.W.Frag} {mg : PySem.Str → Option Value} {base : Heap} (W : Fx K mg) : DF P w K mg base "_law_rc_home" 4 6 (F__law_rc_home K) := by
  unfold F__law_rc_home
  obtain ⟨fd, F⟩ := W.d__law_rc_home
  exact fun_ok F sc__law_rc_home rfl W.g__law_rc_home (fun _ _ _ _ _ _ us hl => match us, hl with | [_, _, _, _], _ => rfl) (m__law_rc_home K) (b__law_rc_home W)
theorem sc__law_rc_joined : FnScope N__law_rc_joined ["one", "other"] (defScope (top 65)) := ⟨rfl, rfl, rfl, by decide +kernel, rfl, by decide +kernel, by decide +kernel⟩
theorem b__law_rc_joined {P : Program} {w : World} {K : PySem.W.Frag} {mg : PySem.Str → Option Value} {base : Heap} (W : Fx K mg) : ∀ (cdv : Value) (A : Around) (outer : List Env) (s : Shared) (H : Hp) (E : XK), Room 0 (A.deeper (PyProof.Rows.envOfC "_law_rc_joined" (defScope (top 65)) s.heap.objs.size (ce K "_law_rc_joined") cdv)) →
    PSs (cxOf (L2.CX P w) P w K mg base N__law_rc_joined "_law_rc_joined" (defScope (top 65)) (ce K "_law_rc_joined") cdv A outer s H E) (defBody (top 65)) (sOf K E (m__law_rc_joined K)) := by
  intro cdv A outer s H E hr
  have hND : (N__law_rc_joined).Nodup := sc__law_rc_joined.nd
  exact (ss_one (ss_ret (se_tup (sa_cons (se_ix (se_var 0 rfl) se_int) (sa_cons (se_op od_add (se_op od_add (se_slice (se_ix (se_var 0 rfl) se_int) so_none (so_some (se_neg se_int))) (se_tup (sa_cons (se_op od_add (se_ix (se_ix (se_var 0 rfl) se_int) (se_neg se_int)) (se_ix (se_ix (se_var 1 rfl) se_int) se_int)) sa_nil))) (se_slice (se_ix (se_var 1 rfl) se_int) (so_some se_int) so_none)) (sa_cons (se_op od_add (se_ix (se_var 0 rfl) se_int) (se_ix (se_var 1 rfl) se_int)) sa_nil))))))
theorem df__law_rc_joined {P : Program} {w : World} {K : PySem.W.Frag} {mg : PySem.Str → Option Value} {base : Heap} (W : Fx K mg) : DF P w K mg base "_law_rc_joined" 2 1 (F__law_rc_joined K) := by
  unfold F__law_rc_joined
  obtain ⟨fd, F⟩ := W.d__law_rc_joined
  exact fun_ok F sc__law_rc_joined rfl W.g__law_rc_joined (fun _ _ _ _ _ _ us hl => match us, hl with | [_, _], _ => rfl) (m__law_rc_joined K) (b__law_rc_joined W)
theorem sc__law_rc_backward : FnScope N__law_rc_backward ["doors", "walk"] (defScope (top 66)) := ⟨rfl, rfl, rfl, by decide +kernel, rfl, by decide +kernel, by decide +kernel⟩
theorem b__law_rc_backward {P : Program} {w : World} {K : PySem.W.Frag} {mg : PySem.Str → Option Value} {base : Heap} (W : Fx K mg) : ∀ (cdv : Value) (A : Around) (outer : List Env) (s : Shared) (H : Hp) (E : XK), Room 2 (A.deeper (PyProof.Rows.envOfC "_law_rc_backward" (defScope (top 66)) s.heap.objs.size (ce K "_law_rc_backward") cdv)) →
    PSs (cxOf (L2.CX P w) P w K mg base N__law_rc_backward "_law_rc_backward" (defScope (top 66)) (ce K "_law_rc_backward") cdv A outer s H E) (defBody (top 66)) (sOf K E (m__law_rc_backward K)) := by
  intro cdv A outer s H E hr
  have hND : (N__law_rc_backward).Nodup := sc__law_rc_backward.nd
  exact (ss_one (ss_ret (se_tup (sa_cons (se_call (x := "_law_rc_end") (df__law_rc_end W) hr (by decide) passC rfl (sa_cons (se_var 0 rfl) (sa_cons (se_var 1 rfl) sa_nil))) (sa_cons (se_callT (T := "tuple") cd_tuple rfl W.fr_tuple (by decide +kernel) (sa_cons (se_rev (se_l (sl_lc (own := [("x", 2)]) rfl hND (si_seq (se_ix (se_var 1 rfl) se_int)) (show BlkOk N__law_rc_backward (defScope (top 66)) _ _ from blkOk_by (by decide +kernel)) (fun _ _ _ _ _ => (sgc_name (by decide) hND rfl (by first | exact Or.inl rfl | exact Or.inr rfl))) (fun _ _ _ _ _ => sts_nil) (fun _ _ _ _ _ => (se_op od_sub se_int (se_var 2 rfl)))))) sa_nil)) (sa_cons (se_callT (T := "tuple") cd_tuple rfl W.fr_tuple (by decide +kernel) (sa_cons (se_rev (se_l (sl_lc (own := [("step", 3)]) rfl hND (si_seq (se_ix (se_var 1 rfl) se_int)) (show BlkOk N__law_rc_backward (defScope (top 66)) _ _ from blkOk_by (by decide +kernel)) (fun _ _ _ _ _ => (sgc_name (by decide) hND rfl (by first | exact Or.inl rfl | exact Or.inr rfl))) (fun _ _ _ _ _ => sts_nil) (fun _ _ _ _ _ => (se_call (x := "_law_rc_turned") (df__law_rc_turned W) hr (by decide) passN rfl (sa_cons (se_var 3 rfl) sa_nil)))))) sa_nil)) sa_nil))))))
theorem df__law_rc_backward {P : Program} {w : World} {K : PySem.W.Frag} {mg : PySem.Str → Option Value} {base : Heap} (W : Fx K mg) : DF P w K mg base "_law_rc_backward" 2 3 (F__law_rc_backward K) := by
  unfold F__law_rc_backward
  obtain ⟨fd, F⟩ := W.d__law_rc_backward
  exact fun_ok F sc__law_rc_backward rfl W.g__law_rc_backward (fun _ _ _ _ _ _ us hl => match us, hl with | [_, _], _ => rfl) (m__law_rc_backward K) (b__law_rc_backward W)
theorem sc__law_rc_word : FnScope N__law_rc_word ["error"] (defScope (top 67)) := ⟨rfl, rfl, rfl, by decide +kernel, rfl, by decide +kernel, by decide +kernel⟩
theorem b__law_rc_word {P : Program} {w : World} {K : PySem.W.Frag} {mg : PySem.Str → Option Value} {base : Heap} (W : Fx K mg) : ∀ (cdv : Value) (A : Around) (outer : List Env) (s : Shared) (H : Hp) (E : XK), Room 0 (A.deeper (PyProof.Rows.envOfC "_law_rc_word" (defScope (top 67)) s.heap.objs.size (ce K "_law_rc_word") cdv)) →
    PSs (cxOf (L2.CX P w) P w K mg base N__law_rc_word "_law_rc_word" (defScope (top 67)) (ce K "_law_rc_word") cdv A outer s H E) (defBody (top 67)) (sOf K E (m__law_rc_word K)) := by
  intro cdv A outer s H E hr
  have hND : (N__law_rc_word).Nodup := sc__law_rc_word.nd
  exact (ss_cons (ss_if (te_cmp (od_is) (se_var 0 rfl) se_non (nomark _)) (ss_one (ss_ret se_str)) ss_nil)
  (ss_cons (ss_set (i := 1) hND rfl (by first | exact Or.inl rfl | exact Or.inr rfl) (se_l (sl_lst (sa_cons (se_tup (sa_cons se_str (sa_cons (se_callB (id := "isinstance") cd_isi rfl W.fr_isinstance (by decide +kernel) (sa_cons (se_var 0 rfl) (sa_cons (se_glob (x := "BadHouse") rfl W.g_BadHouse) sa_nil))) sa_nil))) (sa_cons (se_tup (sa_cons se_str (sa_cons (se_callB (id := "isinstance") cd_isi rfl W.fr_isinstance (by decide +kernel) (sa_cons (se_var 0 rfl) (sa_cons (se_glob (x := "BadRoom") rfl W.g_BadRoom) sa_nil))) sa_nil))) (sa_cons (se_tup (sa_cons se_str (sa_cons (se_callB (id := "isinstance") cd_isi rfl W.fr_isinstance (by decide +kernel) (sa_cons (se_var 0 rfl) (sa_cons (se_glob (x := "BadWalk") rfl W.g_BadWalk) sa_nil))) sa_nil))) (sa_cons (se_tup (sa_cons se_str (sa_cons (se_callB (id := "isinstance") cd_isi rfl W.fr_isinstance (by decide +kernel) (sa_cons (se_var 0 rfl) (sa_cons (se_glob (x := "NotHome") rfl W.g_NotHome) sa_nil))) sa_nil))) sa_nil)))))))
  (ss_cons (ss_set (i := 1) hND rfl (by first | exact Or.inl rfl | exact Or.inr rfl) (se_op od_add (se_var 1 rfl) (se_l (sl_lst (sa_cons (se_tup (sa_cons se_str (sa_cons (se_callB (id := "isinstance") cd_isi rfl W.fr_isinstance (by decide +kernel) (sa_cons (se_var 0 rfl) (sa_cons (se_glob (x := "Elsewhere") rfl W.g_Elsewhere) sa_nil))) sa_nil))) (sa_cons (se_tup (sa_cons se_str (sa_cons (se_callB (id := "isinstance") cd_isi rfl W.fr_isinstance (by decide +kernel) (sa_cons (se_var 0 rfl) (sa_cons (se_glob (x := "BadSpot") rfl W.g_BadSpot) sa_nil))) sa_nil))) (sa_cons (se_tup (sa_cons se_str (sa_cons (se_callB (id := "isinstance") cd_isi rfl W.fr_isinstance (by decide +kernel) (sa_cons (se_var 0 rfl) (sa_cons (se_glob (x := "BadTimes") rfl W.g_BadTimes) sa_nil))) sa_nil))) sa_nil)))))))
  (ss_cons (ss_set (i := 1) hND rfl (by first | exact Or.inl rfl | exact Or.inr rfl) (se_op od_add (se_var 1 rfl) (se_l (sl_lst (sa_cons (se_tup (sa_cons se_str (sa_cons (se_callB (id := "isinstance") cd_isi rfl W.fr_isinstance (by decide +kernel) (sa_cons (se_var 0 rfl) (sa_cons (se_glob (x := "BadMove") rfl W.g_BadMove) sa_nil))) sa_nil))) (sa_cons (se_tup (sa_cons se_str (sa_cons (se_callB (id := "isinstance") cd_isi rfl W.fr_isinstance (by decide +kernel) (sa_cons (se_var 0 rfl) (sa_cons (se_glob (x := "BadState") rfl W.g_BadState) sa_nil))) sa_nil))) (sa_cons (se_tup (sa_cons se_str (sa_cons (se_callB (id := "isinstance") cd_isi rfl W.fr_isinstance (by decide +kernel) (sa_cons (se_var 0 rfl) (sa_cons (se_glob (x := "BadPass") rfl W.g_BadPass) sa_nil))) sa_nil))) (sa_cons (se_tup (sa_cons se_str (sa_cons (se_callB (id := "isinstance") cd_isi rfl W.fr_isinstance (by decide +kernel) (sa_cons (se_var 0 rfl) (sa_cons (se_glob (x := "TooMany") rfl W.g_TooMany) sa_nil))) sa_nil))) sa_nil))))))))
  (ss_cons (ss_for ownC rfl (si_seq (se_var 1 rfl)) (sg_tup (n := 2) rfl (sgs_cons (sg_name hND rfl (by first | exact Or.inl rfl | exact Or.inr rfl)) (sgs_cons (sg_name hND rfl (by first | exact Or.inl rfl | exact Or.inr rfl)) sgs_nil))) (ss_one (ss_if (te_val (se_var 3 rfl)) (ss_one (ss_ret (se_var 2 rfl))) ss_nil)))
  (ss_one (ss_ret se_str)))))))
theorem df__law_rc_word {P : Program} {w : World} {K : PySem.W.Frag} {mg : PySem.Str → Option Value} {base : Heap} (W : Fx K mg) : DF P w K mg base "_law_rc_word" 1 1 (F__law_rc_word K) := by
  unfold F__law_rc_word
  obtain ⟨fd, F⟩ := W.d__law_rc_word
  exact fun_ok F sc__law_rc_word rfl W.g__law_rc_word (fun _ _ _ _ _ _ us hl => match us, hl with | [_], _ => rfl) (m__law_rc_word K) (b__law_rc_word W)
theorem sc__law_k01_power : FnScope N__law_k01_power ["doors", "walk", "times"] (defScope (top 68)) := ⟨rfl, rfl, rfl, by decide +kernel, rfl, by decide +kernel, by decide +kernel⟩
theorem b__law_k01_power {P : Program} {w : World} {K : PySem.W.Frag} {mg : PySem.Str → Option Value} {base : Heap} (W : Fx K mg) : ∀ (cdv : Value) (A : Around) (outer : List Env) (s : Shared) (H : Hp) (E : XK), Room 3 (A.deeper (PyProof.Rows.envOfC "_law_k01_power" (defScope (top 68)) s.heap.objs.size (ce K "_law_k01_power") cdv)) →
    PSs (cxOf (L2.CX P w) P w K mg base N__law_k01_power "_law_k01_power" (defScope (top 68)) (ce K "_law_k01_power") cdv A outer s H E) (defBody (top 68)) (sOf K E (m__law_k01_power K)) := by
  intro cdv A outer s H E hr
  have hND : (N__law_k01_power).Nodup := sc__law_k01_power.nd
  exact (ss_cons (ss_par2 (i := 3) (j := 4) rfl hND rfl rfl (by decide) rfl rfl (sr_v (se_if (te_cmp (od_gt) (se_var 2 rfl) se_int (nomark _)) (se_var 1 rfl) (se_call (x := "_law_rc_backward") (df__law_rc_backward W) hr (by decide) passC rfl (sa_cons (se_var 0 rfl) (sa_cons (se_var 1 rfl) sa_nil)))) (sr_v (se_tup (sa_cons (se_ix (se_var 1 rfl) se_int) (sa_cons (se_tup (sa_cons se_int sa_nil)) (sa_cons (se_tup sa_nil) sa_nil)))) sr_nil)) rfl)
  (ss_cons (ss_for ownC rfl (PI_range1 rfl W.fr_range (sa_cons (se_callB (id := "abs") (cd_abs) rfl W.fr_abs (by decide +kernel) (sa_cons (se_var 2 rfl) sa_nil)) sa_nil)) (sg_name hND rfl (by first | exact Or.inl rfl | exact Or.inr rfl)) (ss_one (ss_set (i := 4) hND rfl (by first | exact Or.inl rfl | exact Or.inr rfl) (se_if (te_cmp (od_eq (hu64 hr)) (se_var 5 rfl) se_int (nomark _)) (se_var 3 rfl) (se_call (x := "_law_rc_joined") (df__law_rc_joined W) hr (by decide) passC rfl (sa_cons (se_var 4 rfl) (sa_cons (se_var 3 rfl) sa_nil)))))))
  (ss_one (ss_ret (se_var 4 rfl)))))
theorem df__law_k01_power {P : Program} {w : World} {K : PySem.W.Frag} {mg : PySem.Str → Option Value} {base : Heap} (W : Fx K mg) : DF P w K mg base "_law_k01_power" 3 4 (F__law_k01_power K) := by
  unfold F__law_k01_power
  obtain ⟨fd, F⟩ := W.d__law_k01_power
  exact fun_ok F sc__law_k01_power rfl W.g__law_k01_power (fun _ _ _ _ _ _ us hl => match us, hl with | [_, _, _], _ => rfl) (m__law_k01_power K) (b__law_k01_power W)
theorem sc_House : FnScope N_House ["self", "rooms", "doors"] (defScope (clsStmt (top 27) 0)) := ⟨rfl, rfl, rfl, by decide +kernel, rfl, by decide +kernel, by decide +kernel⟩
theorem b_House {P : Program} {w : World} {K : PySem.W.Frag} {mg : PySem.Str → Option Value} {base : Heap} (W : Fx K mg) : ∀ (cdv : Value) (A : Around) (outer : List Env) (s : Shared) (H : Hp) (E : XK), Room 4 (A.deeper (PyProof.Rows.envOfC "House.__init__" (defScope (clsStmt (top 27) 0)) s.heap.objs.size (He.ma K (ce K "House") "__init__") cdv)) →
    PSs (cxOf (L2.CX P w) P w K mg base N_House "House.__init__" (defScope (clsStmt (top 27) 0)) (He.ma K (ce K "House") "__init__") cdv A outer s H E) (defBody (clsStmt (top 27) 0)) (sOf K E (m_House K)) := by
  intro cdv A outer s H E hr
  have hND : (N_House).Nodup := sc_House.nd
  exact (ss_cons (ss_if (te_bool (tw_or (te_not (te_val (se_call (x := "is_number") (df_is_number W) hr (by decide) passC rfl (sa_cons (se_var 1 rfl) sa_nil)))) (tw_or1 (te_not (te_chain (od_le) (od_le) se_int (se_var 1 rfl) (se_gint rfl W.i_MOST_ROOMS)))))) (ss_one (ss_raise (W := fun _ _ _ => False) (x := "BadRooms") rfl takesC W.x_BadRooms.1 W.x_BadRooms.2 rfl)) ss_nil)
  (ss_cons (ss_if (te_not (te_val (se_call (x := "are_doors") (df_are_doors W) hr (by decide) passC rfl (sa_cons (se_var 2 rfl) (sa_cons (se_var 1 rfl) sa_nil))))) (ss_one (ss_raise (W := fun _ _ _ => False) (x := "BadDoors") rfl takesC W.x_BadDoors.1 W.x_BadDoors.2 rfl)) ss_nil)
  (ss_cons (ss_set (i := 3) hND rfl (by first | exact Or.inl rfl | exact Or.inr rfl) (se_call (x := "joined_rooms") (df_joined_rooms W) hr (by decide) passC rfl (sa_cons (se_var 2 rfl) sa_nil)))
  (ss_cons (ss_for ownC rfl (PI_range1 rfl W.fr_range (sa_cons (se_var 1 rfl) sa_nil)) (sg_name hND rfl (by first | exact Or.inl rfl | exact Or.inr rfl)) (ss_one (ss_if (te_dnotin 3 (hu1 hr) (se_var 4 rfl)) (ss_one ss_never) ss_nil)))
  (ss_cons (ss_fld 0 "House" W.cl_House W.na_House_rooms (se_var 1 rfl))
  (ss_one (ss_fld 0 "House" W.cl_House W.na_House_doors (se_var 2 rfl))))))))
theorem df_House {P : Program} {w : World} {K : PySem.W.Frag} {mg : PySem.Str → Option Value} {base : Heap} (W : Fx K mg) : DFI P w K mg base "House" 2 5 (F_House K) := by
  obtain ⟨fd, F⟩ := W.d_House
  exact dfi_ok F sc_House rfl W.g_House W.mk_House (fun _ _ _ _ _ _ us hl => match us, hl with | [_, _, _], _ => rfl) (m_House K) (b_House W) fun _ _ _ _ => rfl
theorem dfk_joined_210 {P : Program} {w : World} {K : PySem.W.Frag} {mg : PySem.Str → Option Value} {base : Heap} (W : Fx K mg) : DFK P w K mg base "joined" ["other", "one", "house"] [2, 1, 0] 7 (F_joined K) := by
  obtain ⟨fd, F⟩ := W.d_joined
  exact dfk_ok ["other", "one", "house"] [2, 1, 0] F sc_joined rfl W.g_joined (fun _ _ _ _ _ _ ws hl => match ws, hl with | [_, _, _], _ => rfl) (b_joined W)
end LK01
set_option maxRecDepth 100000
set_option maxHeartbeats 4000000
namespace LK01
open PySem PySem.Spec L2 DS PR
def EXN : List String := ["BadDoors", "BadHouse", "BadMove", "BadPass", "BadRoom", "BadRooms", "BadSpot", "BadState", "BadTimes", "BadWalk", "Elsewhere", "NotHome"]
abbrev N_law : List PySem.Str := ["script", "state", "turn", "told", "rooms", "doors", "house", "some", "here", "lap", "walk", "one", "other", "third", "both", "home", "times", "away", "first", "second", "word", "x", "room"]
abbrev N__law_caught : List PySem.Str := ["work", "caught", "error"]
theorem sc__law_caught : FnScope N__law_caught ["work"] (defScope (top 52)) := ⟨rfl, rfl, rfl, by decide +kernel, rfl, by decide +kernel, by decide +kernel⟩
theorem sc_law : FnScope N_law ["script"] (defScope (top 69)) := ⟨rfl, rfl, rfl, by decide +kernel, rfl, by decide +kernel, by decide +kernel⟩
def QL : PySem.Str := (PyProof.Rows.envOfC "law" (defScope (top 69)) 0 0 .none).qual ++ "<lambda>"
def TL (K : PySem.W.Frag) : List (Addr × PySem.Str) := [((He.cT K ("law", none)).2, QL)]
def m_law (K : PySem.W.Frag) : SM := (seqS (forM' (range1M (consA (binM addD (retM (.int 3)) (appM min2D (consA (appM lenD (consA (varM 0) nilA)) (consA (retM (.int 8)) nilA)))) nilA)) (tgN 2) (seqS (setS 3 (callM 1 (F__law_rc_told K) (consA (varM 1) nilA)))
  (seqS (asgS (tgT 2 (tgCons (tgN 4) (tgCons (tgN 5) tgNil))) (varM 3))
  (seqS (parS [6, 7, 8] (consR .v (makeM "House" 2 (F_House K) (consA (varM 4) (consA (varM 5) nilA))) (consR .l (lstM nilA) (consR .v (callM 2 (F__law_draw K) (consA (varM 1) (consA (varM 4) nilA))) nilR))))
  (seqS (forM' (range1M (consA (retM (.int 3)) nilA)) (tgN 9) (seqS (setS 10 (callM 4 (F__law_rc_walk K) (consA (varM 1) (consA (varM 5) (consA (varM 8) (consA (callM 2 (F__law_draw K) (consA (varM 1) (consA (retM (.int 5)) nilA))) nilA))))))
  (seqS (exprS (apM 7 (tupM (consA (binM ixD (varM 10) (retM (.int 0))) (consA (appM tupleD (consA (lstV (lcM (List.map Prod.snd ([("x", 21)] : List (PySem.Str × Nat))) (seqM (binM ixD (varM 10) (retM (.int 1)))) (tgN 21) (retM true) (binM mulD (varM 21) (callM 2 (F__law_pick K) (consA (varM 1) (consA (lstV (lstM (consA (retM (.int 1)) (consA (retM (.int 1)) (consA (binM powD (retM (.int 10)) (retM (.int 29))) nilA))))) nilA)))))) nilA)) (consA (binM ixD (varM 10) (retM (.int 2))) nilA))))))
  (setS 8 (callM 2 (F__law_rc_end K) (consA (varM 5) (consA (varM 10) nilA)))))))
  (seqS (asgS (tgTL 3 (tgCons (tgN 11) (tgCons (tgN 12) (tgCons (tgN 13) tgNil)))) (varM 7))
  (seqS (setS 14 (callM 2 (F__law_rc_joined K) (consA (varM 11) (consA (varM 12) nilA))))
  (seqS (ifS (orM (boolM (binM neD (appM reprD (consA (callM 3 (F_joined K) (consA (varM 6) (consA (varM 11) (consA (varM 12) nilA)))) nilA)) (appM reprD (consA (varM 14) nilA)))) (boolM (binM neD (appM reprD (consA (callKM 3 [2, 1, 0] (F_joined K) (consA (varM 12) (consA (varM 11) (consA (varM 6) nilA)))) nilA)) (appM reprD (consA (varM 14) nilA))))) (retS (retM (.bl false))) skipS)
  (seqS (ifS (orM (boolM (binM neD (callM 3 (F_joined K) (consA (varM 6) (consA (varM 14) (consA (varM 13) nilA)))) (callM 3 (F_joined K) (consA (varM 6) (consA (varM 11) (consA (callM 3 (F_joined K) (consA (varM 6) (consA (varM 12) (consA (varM 13) nilA)))) nilA)))))) (orM (boolM (binM neD (callM 3 (F_joined K) (consA (varM 6) (consA (varM 11) (consA (callM 2 (F_standing K) (consA (varM 6) (consA (binM ixD (varM 12) (retM (.int 0))) nilA))) nilA)))) (varM 11))) (boolM (binM neD (callM 3 (F_joined K) (consA (varM 6) (consA (callM 2 (F_standing K) (consA (varM 6) (consA (binM ixD (varM 11) (retM (.int 0))) nilA))) (consA (varM 11) nilA)))) (varM 11))))) (retS (retM (.bl false))) skipS)
  (seqS (ifS (orM (boolM (binM neD (appM reprD (consA (callM 2 (F_back K) (consA (varM 6) (consA (varM 11) nilA))) nilA)) (appM reprD (consA (callM 2 (F__law_rc_backward K) (consA (varM 5) (consA (varM 11) nilA))) nilA)))) (orM (boolM (binM neD (callM 2 (F_back K) (consA (varM 6) (consA (callM 2 (F_back K) (consA (varM 6) (consA (varM 11) nilA))) nilA))) (varM 11))) (boolM (binM neD (callM 2 (F_back K) (consA (varM 6) (consA (varM 14) nilA))) (callM 3 (F_joined K) (consA (varM 6) (consA (callM 2 (F_back K) (consA (varM 6) (consA (varM 12) nilA))) (consA (callM 2 (F_back K) (consA (varM 6) (consA (varM 11) nilA))) nilA)))))))) (retS (retM (.bl false))) skipS)
  (seqS (setS 15 (callM 4 (F__law_rc_home K) (consA (varM 1) (consA (varM 3) (consA (binM ixD (varM 11) (retM (.int 0))) (consA (callM 2 (F__law_draw K) (consA (varM 1) (consA (retM (.int 4)) nilA))) nilA))))))
  (seqS (forM' (seqM (lstV (lstM (consA (retM (.int 0)) (consA (retM (.int 1)) (consA (negM (retM (.int 1))) (consA (retM (.int 2)) (consA (retM (.int 3)) (consA (negM (retM (.int 2))) (consA (callM 2 (F__law_pick K) (consA (varM 1) (consA (lstV (lstM (consA (retM (.int 9)) (consA (negM (retM (.int 9))) (consA (retM (.int 5)) nilA))))) nilA))) nilA)))))))))) (tgN 16) (ifS (andM (boolM (binM leD (binM mulD (appM lenD (consA (binM ixD (varM 15) (retM (.int 2))) nilA)) (appM absD (consA (varM 16) nilA))) (retM (.int 60)))) (boolM (binM neD (appM reprD (consA (callM 3 (F_power K) (consA (varM 6) (consA (varM 15) (consA (varM 16) nilA)))) nilA)) (appM reprD (consA (callM 3 (F__law_k01_power K) (consA (varM 5) (consA (varM 15) (consA (varM 16) nilA)))) nilA))))) (retS (retM (.bl false))) skipS))
  (seqS (setS 17 (lstV (lcM (List.map Prod.snd ([("room", 22)] : List (PySem.Str × Nat))) (range1M (consA (varM 4) nilA)) (tgN 22) (boolM (binM neD (varM 22) (callM 2 (F__law_rc_end K) (consA (varM 5) (consA (varM 11) nilA))))) (varM 22))))
  (seqS (ifS (andM (boolM (binM neD (varM 17) (lstV (lstM nilA)))) (boolM (binM neD (callM 1 (F__law_rc_word K) (consA (caughtM (TL K) EXN [] (callM 3 (F_joined K) (consA (varM 6) (consA (varM 11) (consA (callM 2 (F_standing K) (consA (varM 6) (consA (binM ixD (varM 17) (retM (.int 0))) nilA))) nilA))))) nilA)) (retM (.str "elsewhere"))))) (retS (retM (.bl false))) skipS)
  (seqS (forM' (seqM (lstV (lstM (consA (tupM (consA (retM .non) (consA (retM .non) (consA (retM (.str "walk")) nilA)))) (consA (tupM (consA (varM 11) (consA (retM .non) (consA (retM (.str "walk")) nilA)))) (consA (tupM (consA (varM 11) (consA (lstV (appL listD (consA (varM 12) nilA))) (consA (retM (.str "walk")) nilA)))) (consA (tupM (consA (callM 1 (F__law_odd K) (consA (varM 1) nilA)) (consA (varM 12) (consA (retM (.str "walk")) nilA)))) nilA))))))) (tgT 3 (tgCons (tgN 18) (tgCons (tgN 19) (tgCons (tgN 20) tgNil)))) (ifS (boolM (binM neD (callM 1 (F__law_rc_word K) (consA (caughtM (TL K) EXN [] (callM 3 (F_joined K) (consA (varM 6) (consA (varM 18) (consA (varM 19) nilA))))) nilA)) (varM 20))) (retS (retM (.bl false))) skipS))
  (seqS (ifS (boolM (binM neD (callM 1 (F__law_rc_word K) (consA (caughtM (TL K) EXN [] (callM 3 (F_joined K) (consA (retM .non) (consA (retM .non) (consA (retM .non) nilA))))) nilA)) (retM (.str "house")))) (retS (retM (.bl false))) skipS)
  (ifS (boolM (binM neD (callM 1 (F__law_rc_word K) (consA (caughtM (TL K) EXN [] (callM 2 (F_back K) (consA (varM 6) (consA (sliceM (varM 11) (retM none) (partM (retM (.int 2)))) nilA)))) nilA)) (retM (.str "walk")))) (retS (retM (.bl false))) skipS)))))))))))))))))
  (retS (retM (.bl true))))
theorem cg {X : Cx} (hm : X.mg "PullError" = some (.ref (ce X.K "PullError"))) {q : PySem.Str} {g : Addr} {cdv : Value} : LamX.GivesTo X N__law_caught "_law_caught" (defScope (top 52)) g cdv (defBody (top 52)) "work" q (TTcaught X.K (ce X.K "PullError")) :=
  caught_gives rfl hm (by decide) (by decide) rfl rfl (fun _ => rfl) (by decide) (by decide) (by decide) (by decide)
abbrev XL (P : Program) (w : World) (K : PySem.W.Frag) (mg : PySem.Str → Option Value) (base : Heap) (cdv : Value) (A : Around) (outer : List Env) (s : Shared) (H : Hp) (E : XK) : Cx := cxOf (L2.CX P w) P w K mg base N_law "law" (defScope (top 69)) (ce K "law") cdv A outer s H E
theorem cc_law {P : Program} {w : World} {K : PySem.W.Frag} {mg : PySem.Str → Option Value} {base : Heap} (W : Fx K mg)
    (TB : LamX.TabB base mg (He.cT K ("law", none)).1 (He.cT K ("law", none)).2) (cdv : Value) (A : Around) (outer : List Env) (s : Shared) (H : Hp) (E : XK) (hcode : cdv = .ref (He.cT K ("law", none)).1) (hr : Room (19 + 2) (XL P w K mg base cdv A outer s H E).A)
    {body : Expr} {scope : Scope} {p lpos pos : Pos} {fe : M D} (cs : List Nat) (L : LamX.LamS (defScope (top 69)) scope)
    (hbody : ∀ (A1 : Around) (outer1 : List Env) (s1 : Shared) (H1 : Hp) (E1 : XK) (f c' : Addr), Room 19 (A1.deeper (LamX.lamEnv (XL P w K mg base cdv A outer s H E) scope s1.heap.objs.size f c')) → PE (LamX.lamCx (XL P w K mg base cdv A outer s H E) A1 outer1 s1 H1 E1 scope f c') body (tOf K E1 fe)) :
    PE (XL P w K mg base cdv A outer s H E) (.Call (.Name "_law_caught" p) [.Lambda { posonlyargs := [], args := [], vararg := none, kwonlyargs := [], kw_defaults := [], kwarg := none, defaults := [] } body scope lpos] [] pos) (tOf K E (caughtM (TL K) EXN cs fe)) := by
  obtain ⟨fdc, FC⟩ := W.d__law_caught
  have FCk := FC.kp
  have hbc := FC.bindsN (ps := ["work"]) (fun _ _ _ _ _ _ us hl => match us, hl with | [_], _ => rfl)
  obtain ⟨occ, odc, dVc, kVc, docc, pmc, anc, cdvc, ctc, oslc, rfl, lkc, hcc, _, _⟩ := FC.ex
  refine se_caught (T := TL K) (L := EXN) cs W.exm ?_
  refine LamX.pe_lamcall (X := XL P w K mg base cdv A outer s H E) (T := TL K) (k := 19) (P := (He.cT K ("law", none)).2) (c := (He.cT K ("law", none)).1) rfl W.g__law_caught FCk lkc hcc hbc sc__law_caught rfl (Or.inl rfl) (cg W.g_PullError) TB hcode ?_ ?_ hr L ?_ ?_ hbody
  · exact List.mem_singleton.mpr rfl
  · intro p hp _
    cases List.mem_singleton.mp hp
    rfl
  · rfl
  · intro _ _ _ _ _
    rfl
theorem b_law {P : Program} {w : World} {K : PySem.W.Frag} {mg : PySem.Str → Option Value} {base : Heap} (W : Fx K mg) (TB : LamX.TabB base mg (He.cT K ("law", none)).1 (He.cT K ("law", none)).2) : ∀ (cdv : Value) (A : Around) (outer : List Env) (s : Shared) (H : Hp) (E : XK), A.guards = some [] → cdv = .ref (He.cT K ("law", none)).1 → Room 21 (A.deeper (PyProof.Rows.envOfC "law" (defScope (top 69)) s.heap.objs.size (ce K "law") cdv)) →
    PSs (cxOf (L2.CX P w) P w K mg base N_law "law" (defScope (top 69)) (ce K "law") cdv A outer s H E) (defBody (top 69)).tail (sOf K E (m_law K)) := by
  intro cdv A outer s H E hgd hcode hr
  have hND : (N_law).Nodup := sc_law.nd
  exact (ss_cons (ss_for ownC rfl (PI_range1 rfl W.fr_range (sa_cons (se_op od_add se_int (se_callB (id := "min") (cd_min2 rfl) rfl W.fr_min (by decide +kernel) (sa_cons (se_callB (id := "len") (cd_len) rfl W.fr_len (by decide +kernel) (sa_cons (se_var 0 rfl) sa_nil)) (sa_cons se_int sa_nil)))) sa_nil)) (sg_name hND rfl (by first | exact Or.inl rfl | exact Or.inr rfl)) (ss_cons (ss_set (i := 3) hND rfl (by first | exact Or.inl rfl | exact Or.inr rfl) (se_call (x := "_law_rc_told") (df__law_rc_told W) hr (by decide) passC rfl (sa_cons (se_var 1 rfl) sa_nil)))
  (ss_cons (ss_asg (se_var 3 rfl) (sg_tup (n := 2) rfl (sgs_cons (sg_name hND rfl (by first | exact Or.inl rfl | exact Or.inr rfl)) (sgs_cons (sg_name hND rfl (by first | exact Or.inl rfl | exact Or.inr rfl)) sgs_nil))))
  (ss_cons (ss_parT (is := [6, 7, 8]) (n := 3) rfl (sr_v (se_make (x := "House") (df_House W) (hr.mono (by decide)) (Nat.le_refl _) passC rfl (sa_cons (se_var 4 rfl) (sa_cons (se_var 5 rfl) sa_nil))) (sr_l (sl_lst sa_nil) (sr_v (se_call (x := "_law_draw") (df__law_draw W) hr (by decide) passC rfl (sa_cons (se_var 1 rfl) (sa_cons (se_var 4 rfl) sa_nil))) sr_nil))) (sgr_cons (i := 6) hND rfl (by first | exact Or.inl rfl | exact Or.inr rfl) (sgr_cons (i := 7) hND rfl (by first | exact Or.inl rfl | exact Or.inr rfl) (sgr_cons (i := 8) hND rfl (by first | exact Or.inl rfl | exact Or.inr rfl) sgr_nil))))
  (ss_cons (ss_for ownC rfl (PI_range1 rfl W.fr_range (sa_cons se_int sa_nil)) (sg_name hND rfl (by first | exact Or.inl rfl | exact Or.inr rfl)) (ss_cons (ss_set (i := 10) hND rfl (by first | exact Or.inl rfl | exact Or.inr rfl) (se_call (x := "_law_rc_walk") (df__law_rc_walk W) hr (by decide) passC rfl (sa_cons (se_var 1 rfl) (sa_cons (se_var 5 rfl) (sa_cons (se_var 8 rfl) (sa_cons (se_call (x := "_law_draw") (df__law_draw W) hr (by decide) passC rfl (sa_cons (se_var 1 rfl) (sa_cons se_int sa_nil))) sa_nil))))))
  (ss_cons (ss_expr (se_append 7 (se_tup (sa_cons (se_ix (se_var 10 rfl) se_int) (sa_cons (se_callT (T := "tuple") cd_tuple rfl W.fr_tuple (by decide +kernel) (sa_cons (se_l (sl_lc (own := [("x", 21)]) rfl hND (si_seq (se_ix (se_var 10 rfl) se_int)) (show BlkOk N_law (defScope (top 69)) _ _ from blkOk_by (by decide +kernel)) (fun _ _ _ _ _ => (sgc_name (by decide) hND rfl (by first | exact Or.inl rfl | exact Or.inr rfl))) (fun _ _ _ _ _ => sts_nil) (fun _ _ _ _ _ => (se_op od_mul (se_var 21 rfl) (se_call (x := "_law_pick") (df__law_pick W) hr (by decide) passN rfl (sa_cons (se_var 1 rfl) (sa_cons (se_l (sl_lst (sa_cons se_int (sa_cons se_int (sa_cons (se_op od_pow se_int se_int) sa_nil))))) sa_nil))))))) sa_nil)) (sa_cons (se_ix (se_var 10 rfl) se_int) sa_nil)))) rfl (by first | exact Or.inl rfl | exact Or.inr (Or.inl rfl) | exact Or.inr (Or.inr rfl)) (by decide) (by decide) rfl (fun to t => tBM _ "list" rAppend to t) (fun to ta h1 h2 => pe_bm PySem.F.plainAttrs_list PySem.F.slot_list_append PySem.F.type_list_append mt_append h1 h2) (fun _ _ => rfl)))
  (ss_one (ss_set (i := 8) hND rfl (by first | exact Or.inl rfl | exact Or.inr rfl) (se_call (x := "_law_rc_end") (df__law_rc_end W) hr (by decide) passC rfl (sa_cons (se_var 5 rfl) (sa_cons (se_var 10 rfl) sa_nil))))))))
  (ss_cons (ss_asg (se_var 7 rfl) (sg_tupL (n := 3) rfl (sgs_cons (sg_name hND rfl (by first | exact Or.inl rfl | exact Or.inr rfl)) (sgs_cons (sg_name hND rfl (by first | exact Or.inl rfl | exact Or.inr rfl)) (sgs_cons (sg_name hND rfl (by first | exact Or.inl rfl | exact Or.inr rfl)) sgs_nil)))))
  (ss_cons (ss_set (i := 14) hND rfl (by first | exact Or.inl rfl | exact Or.inr rfl) (se_call (x := "_law_rc_joined") (df__law_rc_joined W) hr (by decide) passC rfl (sa_cons (se_var 11 rfl) (sa_cons (se_var 12 rfl) sa_nil))))
  (ss_cons (ss_if (te_bool (tw_or (te_cmp (od_ne (hu64 hr)) (se_callB (id := "repr") (cd_repr hgd (hu70 hr)) rfl W.fr_repr (by decide +kernel) (sa_cons (se_call (x := "joined") (df_joined W) hr (by decide) passC rfl (sa_cons (se_var 6 rfl) (sa_cons (se_var 11 rfl) (sa_cons (se_var 12 rfl) sa_nil)))) sa_nil)) (se_callB (id := "repr") (cd_repr hgd (hu70 hr)) rfl W.fr_repr (by decide +kernel) (sa_cons (se_var 14 rfl) sa_nil)) (nomark _)) (tw_or1 (te_cmp (od_ne (hu64 hr)) (se_callB (id := "repr") (cd_repr hgd (hu70 hr)) rfl W.fr_repr (by decide +kernel) (sa_cons (se_callK (x := "joined") (dfk_joined_210 W) hr (by decide) passC rfl (sk_cons (se_var 12 rfl) (sk_cons (se_var 11 rfl) (sk_cons (se_var 6 rfl) sk_nil)))) sa_nil)) (se_callB (id := "repr") (cd_repr hgd (hu70 hr)) rfl W.fr_repr (by decide +kernel) (sa_cons (se_var 14 rfl) sa_nil)) (nomark _))))) (ss_one (ss_ret se_bl)) ss_nil)
  (ss_cons (ss_if (te_bool (tw_or (te_cmp (od_ne (hu64 hr)) (se_call (x := "joined") (df_joined W) hr (by decide) passC rfl (sa_cons (se_var 6 rfl) (sa_cons (se_var 14 rfl) (sa_cons (se_var 13 rfl) sa_nil)))) (se_call (x := "joined") (df_joined W) hr (by decide) passC rfl (sa_cons (se_var 6 rfl) (sa_cons (se_var 11 rfl) (sa_cons (se_call (x := "joined") (df_joined W) hr (by decide) passC rfl (sa_cons (se_var 6 rfl) (sa_cons (se_var 12 rfl) (sa_cons (se_var 13 rfl) sa_nil)))) sa_nil)))) (nomark _)) (tw_or (te_cmp (od_ne (hu64 hr)) (se_call (x := "joined") (df_joined W) hr (by decide) passC rfl (sa_cons (se_var 6 rfl) (sa_cons (se_var 11 rfl) (sa_cons (se_call (x := "standing") (df_standing W) hr (by decide) passC rfl (sa_cons (se_var 6 rfl) (sa_cons (se_ix (se_var 12 rfl) se_int) sa_nil))) sa_nil)))) (se_var 11 rfl) (nomark _)) (tw_or1 (te_cmp (od_ne (hu64 hr)) (se_call (x := "joined") (df_joined W) hr (by decide) passC rfl (sa_cons (se_var 6 rfl) (sa_cons (se_call (x := "standing") (df_standing W) hr (by decide) passC rfl (sa_cons (se_var 6 rfl) (sa_cons (se_ix (se_var 11 rfl) se_int) sa_nil))) (sa_cons (se_var 11 rfl) sa_nil)))) (se_var 11 rfl) (nomark _)))))) (ss_one (ss_ret se_bl)) ss_nil)
  (ss_cons (ss_if (te_bool (tw_or (te_cmp (od_ne (hu64 hr)) (se_callB (id := "repr") (cd_repr hgd (hu70 hr)) rfl W.fr_repr (by decide +kernel) (sa_cons (se_call (x := "back") (df_back W) hr (by decide) passC rfl (sa_cons (se_var 6 rfl) (sa_cons (se_var 11 rfl) sa_nil))) sa_nil)) (se_callB (id := "repr") (cd_repr hgd (hu70 hr)) rfl W.fr_repr (by decide +kernel) (sa_cons (se_call (x := "_law_rc_backward") (df__law_rc_backward W) hr (by decide) passC rfl (sa_cons (se_var 5 rfl) (sa_cons (se_var 11 rfl) sa_nil))) sa_nil)) (nomark _)) (tw_or (te_cmp (od_ne (hu64 hr)) (se_call (x := "back") (df_back W) hr (by decide) passC rfl (sa_cons (se_var 6 rfl) (sa_cons (se_call (x := "back") (df_back W) hr (by decide) passC rfl (sa_cons (se_var 6 rfl) (sa_cons (se_var 11 rfl) sa_nil))) sa_nil))) (se_var 11 rfl) (nomark _)) (tw_or1 (te_cmp (od_ne (hu64 hr)) (se_call (x := "back") (df_back W) hr (by decide) passC rfl (sa_cons (se_var 6 rfl) (sa_cons (se_var 14 rfl) sa_nil))) (se_call (x := "joined") (df_joined W) hr (by decide) passC rfl (sa_cons (se_var 6 rfl) (sa_cons (se_call (x := "back") (df_back W) hr (by decide) passC rfl (sa_cons (se_var 6 rfl) (sa_cons (se_var 12 rfl) sa_nil))) (sa_cons (se_call (x := "back") (df_back W) hr (by decide) passC rfl (sa_cons (se_var 6 rfl) (sa_cons (se_var 11 rfl) sa_nil))) sa_nil)))) (nomark _)))))) (ss_one (ss_ret se_bl)) ss_nil)
  (ss_cons (ss_set (i := 15) hND rfl (by first | exact Or.inl rfl | exact Or.inr rfl) (se_call (x := "_law_rc_home") (df__law_rc_home W) hr (by decide) passC rfl (sa_cons (se_var 1 rfl) (sa_cons (se_var 3 rfl) (sa_cons (se_ix (se_var 11 rfl) se_int) (sa_cons (se_call (x := "_law_draw") (df__law_draw W) hr (by decide) passC rfl (sa_cons (se_var 1 rfl) (sa_cons se_int sa_nil))) sa_nil))))))
  (ss_cons (ss_for ownC rfl (si_seq (se_l (sl_lst (sa_cons se_int (sa_cons se_int (sa_cons (se_neg se_int) (sa_cons se_int (sa_cons se_int (sa_cons (se_neg se_int) (sa_cons (se_call (x := "_law_pick") (df__law_pick W) hr (by decide) passC rfl (sa_cons (se_var 1 rfl) (sa_cons (se_l (sl_lst (sa_cons se_int (sa_cons (se_neg se_int) (sa_cons se_int sa_nil))))) sa_nil))) sa_nil)))))))))) (sg_name hND rfl (by first | exact Or.inl rfl | exact Or.inr rfl)) (ss_one (ss_if (te_bool (tw_and (te_cmp (od_le) (se_op od_mul (se_callB (id := "len") (cd_len) rfl W.fr_len (by decide +kernel) (sa_cons (se_ix (se_var 15 rfl) se_int) sa_nil)) (se_callB (id := "abs") (cd_abs) rfl W.fr_abs (by decide +kernel) (sa_cons (se_var 16 rfl) sa_nil))) se_int (nomark _)) (tw_and1 (te_cmp (od_ne (hu64 hr)) (se_callB (id := "repr") (cd_repr hgd (hu70 hr)) rfl W.fr_repr (by decide +kernel) (sa_cons (se_call (x := "power") (df_power W) hr (by decide) passC rfl (sa_cons (se_var 6 rfl) (sa_cons (se_var 15 rfl) (sa_cons (se_var 16 rfl) sa_nil)))) sa_nil)) (se_callB (id := "repr") (cd_repr hgd (hu70 hr)) rfl W.fr_repr (by decide +kernel) (sa_cons (se_call (x := "_law_k01_power") (df__law_k01_power W) hr (by decide) passC rfl (sa_cons (se_var 5 rfl) (sa_cons (se_var 15 rfl) (sa_cons (se_var 16 rfl) sa_nil)))) sa_nil)) (nomark _))))) (ss_one (ss_ret se_bl)) ss_nil)))
  (ss_cons (ss_set (i := 17) hND rfl (by first | exact Or.inl rfl | exact Or.inr rfl) (se_l (sl_lc (own := [("room", 22)]) rfl hND (PI_range1 rfl W.fr_range (sa_cons (se_var 4 rfl) sa_nil)) (show BlkOk N_law (defScope (top 69)) _ _ from blkOk_by (by decide +kernel)) (fun _ _ _ _ _ => (sgc_name (by decide) hND rfl (by first | exact Or.inl rfl | exact Or.inr rfl))) (fun _ _ _ _ _ => (sts_one (te_cmp (od_ne (hu64 hr)) (se_var 22 rfl) (se_call (x := "_law_rc_end") (df__law_rc_end W) hr (by decide) passN rfl (sa_cons (se_var 5 rfl) (sa_cons (se_var 11 rfl) sa_nil))) (nomark _)))) (fun _ _ _ _ _ => (se_var 22 rfl)))))
  (ss_cons (ss_if (te_bool (tw_and (te_cmp (od_ne (hu64 hr)) (se_var 17 rfl) (se_l (sl_lst sa_nil)) (nomark _)) (tw_and1 (te_cmp (od_ne (hu64 hr)) (se_call (x := "_law_rc_word") (df__law_rc_word W) hr (by decide) passC rfl (sa_cons (cc_law W TB cdv A outer s H E hcode (hr.mono (by decide)) [] (LamX.lamS_by (by decide +kernel)) (fun A1 outer1 s1 H1 E1 f1 c1 hr => (se_call (x := "joined") (df_joined W) hr (by decide) (passL (X := XL P w K mg base cdv A outer s H E) (A := A1) (outer := outer1) (s := s1) (H := H1) (E := E1) (f := f1) (c' := c1)) rfl (sa_cons (se_var 6 rfl) (sa_cons (se_var 11 rfl) (sa_cons (se_call (x := "standing") (df_standing W) hr (by decide) (passL (X := XL P w K mg base cdv A outer s H E) (A := A1) (outer := outer1) (s := s1) (H := H1) (E := E1) (f := f1) (c' := c1)) rfl (sa_cons (se_var 6 rfl) (sa_cons (se_ix (se_var 17 rfl) se_int) sa_nil))) sa_nil)))))) sa_nil)) se_str (nomark _))))) (ss_one (ss_ret se_bl)) ss_nil)
  (ss_cons (ss_for ownC rfl (si_seq (se_l (sl_lst (sa_cons (se_tup (sa_cons se_non (sa_cons se_non (sa_cons se_str sa_nil)))) (sa_cons (se_tup (sa_cons (se_var 11 rfl) (sa_cons se_non (sa_cons se_str sa_nil)))) (sa_cons (se_tup (sa_cons (se_var 11 rfl) (sa_cons (se_l (sl_list rfl W.fr_list (sa_cons (se_var 12 rfl) sa_nil))) (sa_cons se_str sa_nil)))) (sa_cons (se_tup (sa_cons (se_call (x := "_law_odd") (df__law_odd W) hr (by decide) passC rfl (sa_cons (se_var 1 rfl) sa_nil)) (sa_cons (se_var 12 rfl) (sa_cons se_str sa_nil)))) sa_nil))))))) (sg_tup (n := 3) rfl (sgs_cons (sg_name hND rfl (by first | exact Or.inl rfl | exact Or.inr rfl)) (sgs_cons (sg_name hND rfl (by first | exact Or.inl rfl | exact Or.inr rfl)) (sgs_cons (sg_name hND rfl (by first | exact Or.inl rfl | exact Or.inr rfl)) sgs_nil)))) (ss_one (ss_if (te_cmp (od_ne (hu64 hr)) (se_call (x := "_law_rc_word") (df__law_rc_word W) hr (by decide) passC rfl (sa_cons (cc_law W TB cdv A outer s H E hcode (hr.mono (by decide)) [] (LamX.lamS_by (by decide +kernel)) (fun A1 outer1 s1 H1 E1 f1 c1 hr => (se_call (x := "joined") (df_joined W) hr (by decide) (passL (X := XL P w K mg base cdv A outer s H E) (A := A1) (outer := outer1) (s := s1) (H := H1) (E := E1) (f := f1) (c' := c1)) rfl (sa_cons (se_var 6 rfl) (sa_cons (se_var 18 rfl) (sa_cons (se_var 19 rfl) sa_nil)))))) sa_nil)) (se_var 20 rfl) (nomark _)) (ss_one (ss_ret se_bl)) ss_nil)))
  (ss_cons (ss_if (te_cmp (od_ne (hu64 hr)) (se_call (x := "_law_rc_word") (df__law_rc_word W) hr (by decide) passC rfl (sa_cons (cc_law W TB cdv A outer s H E hcode (hr.mono (by decide)) [] (LamX.lamS_by (by decide +kernel)) (fun A1 outer1 s1 H1 E1 f1 c1 hr => (se_call (x := "joined") (df_joined W) hr (by decide) (passL (X := XL P w K mg base cdv A outer s H E) (A := A1) (outer := outer1) (s := s1) (H := H1) (E := E1) (f := f1) (c' := c1)) rfl (sa_cons se_non (sa_cons se_non (sa_cons se_non sa_nil)))))) sa_nil)) se_str (nomark _)) (ss_one (ss_ret se_bl)) ss_nil)
  (ss_one (ss_if (te_cmp (od_ne (hu64 hr)) (se_call (x := "_law_rc_word") (df__law_rc_word W) hr (by decide) passC rfl (sa_cons (cc_law W TB cdv A outer s H E hcode (hr.mono (by decide)) [] (LamX.lamS_by (by decide +kernel)) (fun A1 outer1 s1 H1 E1 f1 c1 hr => (se_call (x := "back") (df_back W) hr (by decide) (passL (X := XL P w K mg base cdv A outer s H E) (A := A1) (outer := outer1) (s := s1) (H := H1) (E := E1) (f := f1) (c' := c1)) rfl (sa_cons (se_var 6 rfl) (sa_cons (se_slice (se_var 11 rfl) so_none (so_some se_int)) sa_nil))))) sa_nil)) se_str (nomark _)) (ss_one (ss_ret se_bl)) ss_nil))))))))))))))))))
  (ss_one (ss_ret se_bl)))
end LK01
set_option maxRecDepth 100000
set_option maxHeartbeats 4000000
namespace LK01
open PySem PySem.Spec L2 DS PR
def BIG : Nat := 24 * 10 ^ 29
/-- a walk as the law draws it -/
structure Wd (r : Int) (ys : List Dr) (w : Wk) : Prop where
  ok : w.Ok r ys
  le : w.passes.length ≤ 4
  bd : ∀ x ∈ w.pulls, x.natAbs ≤ BIG
theorem Wd.sh {r : Int} {ys : List Dr} {w : Wk} (h : Wd r ys w) : w.Sh := h.ok.sh (by have := h.le; omega)
section
variable {K : PySem.W.Frag} (X : Kx K) (Y : Ke K EXN) {r : Int} {ys : List Dr}
/-- pulls of great size -/
theorem scale_row {k : Nat} {A : List D → G → Prop} {env : List Slot} (i1 : env[1]? = some (.val .st)) (hw : wipeE env [21] = env) (hl : 21 < env.length) {m : Nat} (hm : m ≤ 1000) (hA : ∀ (xs : List Int) S', (∀ x ∈ xs, x.natAbs ≤ BIG) → xs.length = m → St (TL K) k S' → A (xs.map D.int) ⟨env, S'⟩) :
    ∀ (zs : List Int) {xs : List Int} {S : DrawSt}, (∀ x ∈ zs, x.natAbs ≤ 24) → (∀ x ∈ xs, x.natAbs ≤ BIG) → xs.length + zs.length = m → St (TL K) (k + zs.length) S →
    wp (lcS [21] (tgN 21) (retM true) (binM mulD (varM 21) (callM 2 (F__law_pick K) (consA (varM 1) (consA (lstV (lstM (consA (retM (.int 1)) (consA (retM (.int 1)) (consA (binM powD (retM (.int 10)) (retM (.int 29))) nilA))))) nilA)))) (zs.map D.int) (xs.map D.int) ⟨env, S⟩) A := by
  intro zs
  induction zs with
  | nil =>
    intro xs S hz hx hl h
    exact hA xs S hx (by simpa using hl) h
  | cons z zs IH =>
    intro xs S hz hx hl h
    have z24 := hz z List.mem_cons_self
    rw [List.length_cons] at hl h
    have pw : powD (.int 10) (.int 29) = some (.int (10 ^ 29)) := rfl
    have e1 : (env.set 21 (.val (.int z)))[21]? = some (.val (.int z)) := by simp [*]
    have e2 : (env.set 21 (.val (.int z)))[1]? = some (.val .st) := by simp [i1]
    show wp (lcS _ _ _ _ (D.int z :: zs.map D.int) _ _) A
    unfold lcS
    rw [tgN_mk]
    show wp ((nox _).bind _) A
    rw [wp_bind, wp_nox, wp_ret]
    show wp ((nox _).bind _) A
    rw [wp_bind, wp_nox]
    simp [-wp_for_cons, e1, e2, pw]
    refine pick_ok (k := k + zs.length) h (by simp) (by simp) fun d S' hd h1 => ?_
    have : ∃ j : Int, d = .int j ∧ j.natAbs ≤ 10 ^ 29 := by
      simp at hd
      rcases hd with rfl | rfl <;> exact ⟨_, rfl, by decide⟩
    obtain ⟨j, rfl, hj⟩ := this
    have mu : mulD (.int z) (.int j) = some (.int (z * j)) := mulD_small (small_nb (by omega))
    have bz : (z * j).natAbs ≤ BIG := by
      rw [Int.natAbs_mul]
      exact Nat.mul_le_mul z24 hj
    have wl : wipeG [21] ⟨env.set 21 (.val (.int z)), S'⟩ = ⟨env, S'⟩ := by
      show (⟨(wipeE (env.set 21 (.val (.int z))) []).set 21 .un, S'⟩ : G) = _
      show (⟨(env.set 21 (.val (.int z))).set 21 .un, S'⟩ : G) = _
      rw [List.set_set]
      have : env.set 21 .un = env := hw
      rw [this]
    refine ⟨_, mu, ?_⟩
    rw [if_pos (by omega), wl]
    have := IH (xs := xs ++ [z * j]) (S := S') (fun x hx' => hz x (List.mem_cons_of_mem _ hx')) (fun x hx' => by
      rcases List.mem_append.mp hx' with hx' | hx'
      · exact hx x hx'
      · rw [List.mem_singleton.mp hx']; exact bz) (by rw [List.length_append, List.length_singleton]; omega) h1
    rw [List.map_append] at this
    exact this
def bLap (K : PySem.W.Frag) : SM := (seqS (setS 10 (callM 4 (F__law_rc_walk K) (consA (varM 1) (consA (varM 5) (consA (varM 8) (consA (callM 2 (F__law_draw K) (consA (varM 1) (consA (retM (.int 5)) nilA))) nilA))))))
  (seqS (exprS (apM 7 (tupM (consA (binM ixD (varM 10) (retM (.int 0))) (consA (appM tupleD (consA (lstV (lcM (List.map Prod.snd ([("x", 21)] : List (PySem.Str × Nat))) (seqM (binM ixD (varM 10) (retM (.int 1)))) (tgN 21) (retM true) (binM mulD (varM 21) (callM 2 (F__law_pick K) (consA (varM 1) (consA (lstV (lstM (consA (retM (.int 1)) (consA (retM (.int 1)) (consA (binM powD (retM (.int 10)) (retM (.int 29))) nilA))))) nilA)))))) nilA)) (consA (binM ixD (varM 10) (retM (.int 2))) nilA))))))
  (setS 8 (callM 2 (F__law_rc_end K) (consA (varM 5) (consA (varM 10) nilA))))))
theorem lap_ok {k : Nat} {S : DrawSt} {Q : Fl → G → Prop} {ws : List Wk} {x : Int} {s0 s2 s3 s4 s6 s9 s10 s11 s12 s13 s14 s15 s16 s17 s18 s19 s20 s21 s22 : Slot} (h : St (TL K) (k + 30) S) (hg : ∀ y ∈ ys, Dr.Good r y) (hl : ys.length ≤ 20) (x0 : 0 ≤ x) (x1 : x < r) (hw : ws.length ≤ 10)
    (hQ : ∀ w S' s10, Wd r ys w → w.room = x → St (TL K) k S' → Q .nx ⟨[s0, .val .st, s2, s3, s4, .val (dsD ys), s6, .own ((ws ++ [w]).map Wk.d), .val (.int (w.fin ys)), s9, s10, s11, s12, s13, s14, s15, s16, s17, s18, s19, s20, .un, s22], S'⟩) :
    wp (bLap K ⟨[s0, .val .st, s2, s3, s4, .val (dsD ys), s6, .own (ws.map Wk.d), .val (.int x), s9, s10, s11, s12, s13, s14, s15, s16, s17, s18, s19, s20, s21, s22], S⟩) Q := by
  unfold bLap
  simp [-wp_for_cons]
  refine draw_ok (k := k + 29) h (by decide) (by decide) fun m S1 m0 m1 h1 => ?_
  obtain ⟨n, rfl⟩ : ∃ n : Nat, m = n := ⟨m.toNat, by omega⟩
  refine walk_ok (r := r) (k := k + 10) (m := n) (h1.mono (by omega)) (by omega) (by omega) x0 x1 fun w S2 hw2 er hp hx h2 => ?_
  have l1 := hw2.len
  simp [-wp_for_cons, ix_w0, ix_w1, ix_w2, wipeG, wipeE]
  refine scale_row (k := k) (env := [s0, .val .st, s2, s3, s4, .val (dsD ys), s6, .own (ws.map Wk.d), .val (.int x), s9, .val w.d, s11, s12, s13, s14, s15, s16, s17, s18, s19, s20, .un, s22]) rfl rfl (by simp) (m := w.pulls.length) (by omega) (fun xs S3 hxs hxl h3 => ?_) w.pulls (xs := []) hx (by simp) (by simp) (h2.mono (by omega))
  have e1 := fun S => rc_end_eq (K := K) (S := S) (chain_lt hw2.ch)
  have l2 : ws.length < 16777216 := by omega
  simp [-wp_for_cons, tupleD, ix_w2, e1, l2]
  have := hQ ⟨w.room, xs, w.passes⟩ S3 (.val w.d) ⟨⟨hw2.r0, hw2.r1, by simpa [hxl] using l1, hw2.ch⟩, by show w.passes.length ≤ 4; omega, hxs⟩ er h3
  simp only [List.map_append, List.map_cons, List.map_nil] at this
  exact this
end
end LK01
set_option maxRecDepth 100000
set_option maxHeartbeats 4000000
namespace LK01
open PySem PySem.Spec L2 DS PR
section
variable {K : PySem.W.Frag} (X : Kx K) (Y : Ke K EXN) {r : Int} {ys : List Dr}
theorem pow_loop2 {s0 s1 s2 : Slot} {one : Wk} {S : DrawSt} {Q : Fl → G → Prop} (ho : one.Sh) : ∀ (ls : List Int) {f : Wk} {e : Slot}, (∀ i ∈ ls, i ≠ 0) → f.Sh → f.pulls.length + ls.length * one.pulls.length ≤ 1000 → f.passes.length + ls.length * one.passes.length ≤ 1000 → (∀ e, Q .nx ⟨[s0, s1, s2, .val one.d, .val (powL one ls.length f).d, e], S⟩) →
    wp (forS (tgN 5) (setS 4 (ifM (boolM (binM eqD (varM 5) (retM (.int 0)))) (varM 3) (callM 2 (F__law_rc_joined K) (consA (varM 4) (consA (varM 3) nilA))))) (ls.map D.int) ⟨[s0, s1, s2, .val one.d, .val f.d, e], S⟩) Q := by
  intro ls
  induction ls with
  | nil =>
    intro f e _ _ _ _ hQ
    exact hQ e
  | cons i ls IH =>
    intro f e hi hf h1 h2 hQ
    rw [List.length_cons, Nat.succ_mul] at h1 h2
    have i0 := hi i List.mem_cons_self
    have l1 : (joinW f one).pulls.length + 1 = f.pulls.length + one.pulls.length := by
      have a1 := List.length_pos_iff.mpr hf.a
      have a2 := List.length_pos_iff.mpr ho.a
      simp [joinW]
      omega
    show wp (forS _ _ (D.int i :: ls.map D.int) _) Q
    rw [wp_for_cons]
    refine ⟨_, rfl, ?_⟩
    simp [-wp_for_cons, i0, rc_joined_eq hf ho]
    exact IH (fun j hj => hi j (List.mem_cons_of_mem _ hj)) (joinW_sh hf ho (by omega) (by omega)) (by omega) (by rw [joinW_len]; omega) hQ
theorem k01_power_eq {S : DrawSt} {w : Wk} (h : w.Ok r ys) (hs : w.Sh) (hf : w.fin ys = w.room) {t : Int} (t0 : t.natAbs ≤ 9) (h1 : t.natAbs * w.passes.length ≤ 60) : F__law_k01_power K [dsD ys, w.d, .int t] S = .ok (powL (oneW ys w t) t.natAbs (stand w.room)).d S := by
  refine fok_eq ?_
  unfold F__law_k01_power m__law_k01_power
  have okr : okR (t.natAbs : Int) = true := by unfold okR; simp; omega
  have ab : (if t < 0 then -t else t) = t.natAbs := abs_nat t
  have pl := h.len
  have lp : t.natAbs * w.pulls.length ≤ 69 := by rw [pl, Nat.mul_add]; omega
  obtain ⟨o1, o2⟩ := oneW_len (ys := ys) (w := w) t
  have so := oneW_sh (ys := ys) hs t
  have ro : (oneW ys w t).room = w.room := by
    unfold oneW
    split
    · rfl
    · exact hf
  have key : wp (forS (tgN 5) (setS 4 (ifM (boolM (binM eqD (varM 5) (retM (.int 0)))) (varM 3) (callM 2 (F__law_rc_joined K) (consA (varM 4) (consA (varM 3) nilA))))) (rangeL 0 (t.natAbs : Int)) ⟨[.val (dsD ys), .val w.d, .val (.int t), .val (oneW ys w t).d, .val (stand w.room).d, .un], S⟩) (fun fl Γ1 => fl = .nx ∧ ∃ e, Γ1 = ⟨[.val (dsD ys), .val w.d, .val (.int t), .val (oneW ys w t).d, .val (powL (oneW ys w t) t.natAbs (stand w.room)).d, e], S⟩) := by
    cases hn : t.natAbs with
    | zero => exact ⟨rfl, _, rfl⟩
    | succ n =>
      rw [rangeL_cons (by omega), wp_for_cons]
      refine ⟨_, rfl, ?_⟩
      have er : rangeL (0 + 1) ((n + 1 : Nat) : Int) = ((List.range n).map fun i : Nat => (1 : Int) + i).map D.int := by
        unfold rangeL
        rw [List.map_map, show (((n + 1 : Nat) : Int) - (0 + 1)).toNat = n by omega]
        rfl
      rw [er]
      simp [-wp_for_cons, -List.map_map]
      have e1 : powL (oneW ys w t) (n + 1) (stand w.room) = powL (oneW ys w t) n (oneW ys w t) := by
        show powL _ n (joinW (stand w.room) (oneW ys w t)) = _
        rw [← ro, joinW_stand_l so.a]
      have ll : ((List.range n).map fun i : Nat => (1 : Int) + i).length = n := by simp
      have nm1 : n * w.pulls.length + w.pulls.length ≤ 69 := by rw [hn, Nat.succ_mul] at lp; exact lp
      have nm2 : n * w.passes.length + w.passes.length ≤ 60 := by rw [hn, Nat.succ_mul] at h1; exact h1
      refine pow_loop2 so _ (fun i hi => ?_) so (by rw [ll, o1]; omega) (by rw [ll, o2]; omega) fun e => ⟨rfl, e, ?_⟩
      · obtain ⟨j, _, rfl⟩ := List.mem_map.mp hi
        omega
      · rw [ll, e1]
  have conv : ∀ {fl : Fl} {Γ1 : G}, (fl = .nx ∧ ∃ e, Γ1 = ⟨[.val (dsD ys), .val w.d, .val (.int t), .val (oneW ys w t).d, .val (powL (oneW ys w t) t.natAbs (stand w.room)).d, e], S⟩) → (match fl with
      | .nx => wp (varM 4 Γ1) fun d Γ1 => d = (powL (oneW ys w t) t.natAbs (stand w.room)).d ∧ Γ1.ds = S
      | .ret d => d = (powL (oneW ys w t) t.natAbs (stand w.room)).d ∧ Γ1.ds = S
      | .bk => False
      | .ct => False) := fun {fl Γ1} q => by
    obtain ⟨rfl, e, rfl⟩ := q
    simp
  have fin2 := wp_mono key fun fl Γ1 q => conv q
  have sd : (stand w.room).d = .tup [.int w.room, .tup [.int 0], .tup []] := rfl
  by_cases tp : 0 < t
  · have e1 : oneW ys w t = w := by unfold oneW; rw [if_pos tp]
    rw [e1, sd] at fin2
    simp [-wp_for_cons, env0, tp, ix_w0, ab, okr, e1]
    exact fin2
  · have e1 : oneW ys w t = backW ys w := by unfold oneW; rw [if_neg tp]
    rw [e1, sd] at fin2
    simp [-wp_for_cons, env0, tp, ix_w0, ab, okr, backward_eq hs (chain_lt h.ch), e1]
    exact fin2
def Bd (B : Nat) (w : Wk) : Prop := ∀ x ∈ w.pulls, x.natAbs ≤ B
theorem mem_lastI {xs : List Int} (h : xs ≠ []) : lastI xs ∈ xs := by
  obtain ⟨a, x, rfl⟩ := split_last h
  rw [lastI_app]; simp
theorem mem_headI {xs : List Int} (h : xs ≠ []) : headI xs ∈ xs := by
  cases xs with
  | nil => exact absurd rfl h
  | cons x xs => simp [headI]
theorem Bd.join {A B : Nat} {a b : Wk} (ha : Bd A a) (hb : Bd B b) (na : a.pulls ≠ []) (nb : b.pulls ≠ []) : Bd (A + B) (joinW a b) := fun x hx => by
  simp only [joinW, List.mem_append, List.mem_singleton] at hx
  rcases hx with (hx | rfl) | hx
  · have := ha x ((List.dropLast_sublist _).subset hx); omega
  · have h1 := ha _ (mem_lastI na)
    have h2 := hb _ (mem_headI nb)
    omega
  · have := hb x (List.mem_of_mem_tail hx); omega
theorem Bd.back {A : Nat} {a : Wk} (ha : Bd A a) : Bd A (backW ys a) := fun x hx => by
  simp only [backW, List.mem_map, List.mem_reverse] at hx
  obtain ⟨y, hy, rfl⟩ := hx
  have := ha y hy
  omega
theorem Bd.pow {A : Nat} {one : Wk} (h : Bd A one) (no : one.pulls ≠ []) : ∀ (n : Nat) {B : Nat} {f : Wk}, Bd B f → f.pulls ≠ [] → Bd (B + n * A) (powL one n f)
  | 0, B, f, hf, _ => by rw [Nat.zero_mul, Nat.add_zero]; exact hf
  | n + 1, B, f, hf, nf => by
    have := Bd.pow h no n (hf.join h nf no) (by simp [joinW])
    rw [show B + (n + 1) * A = B + A + n * A by rw [Nat.succ_mul]; omega]
    exact this
/-- a walk can be shown -/
theorem show_w {w : Wk} {B : Nat} (h : w.Ok r ys) (hs : w.Sh) (hy : ys.length ≤ 1000) (hr : r ≤ 1000) (hb : Bd B w) (hB : B < 10 ^ 200) : ∃ s, reprD [w.d] = some (.str s) ∧ neD (.str s) (.str s) = some (.bl false) := by
  have h0 := h.r0
  have h1 := h.r1
  exact wk_repr hs (fun p hp => by have := chain_lt h.ch p hp; omega) (by omega) fun x hx => Nat.lt_of_le_of_lt (hb x hx) hB
theorem powL_ok {one : Wk} (ho : one.Ok r ys) (hf1 : one.fin ys = one.room) : ∀ (n : Nat) {f : Wk}, f.Ok r ys → f.fin ys = one.room → (powL one n f).Ok r ys
  | 0, f, h, _ => h
  | n + 1, f, h, e => powL_ok ho hf1 n (joinW_ok h ho e.symm) (by rw [joinW_fin e.symm]; exact hf1)
theorem powL_len {one : Wk} : ∀ (n : Nat) {f : Wk}, (powL one n f).passes.length = f.passes.length + n * one.passes.length
  | 0, f => by simp [powL]
  | n + 1, f => by
    show (powL one n (joinW f one)).passes.length = _
    rw [powL_len n, joinW_len, Nat.succ_mul]
    omega
@[irreducible] def bTimes (K : PySem.W.Frag) : SM := (ifS (DS.andM (boolM (binM leD (binM mulD (appM lenD (consA (binM ixD (varM 15) (retM (.int 2))) nilA)) (appM absD (consA (varM 16) nilA))) (retM (.int 60)))) (boolM (binM neD (appM reprD (consA (callM 3 (F_power K) (consA (varM 6) (consA (varM 15) (consA (varM 16) nilA)))) nilA)) (appM reprD (consA (callM 3 (F__law_k01_power K) (consA (varM 5) (consA (varM 15) (consA (varM 16) nilA)))) nilA))))) (retS (retM (.bl false))) skipS)
include X in
theorem times_ok {S : DrawSt} {Q : Fl → G → Prop} {w : Wk} {s0 s1 s2 s3 s4 s7 s8 s9 s10 s11 s12 s13 s14 s17 s18 s19 s20 s21 s22 : Slot} (hg : ∀ y ∈ ys, Dr.Good r y) (hy : ys.length ≤ 20) (hr : r ≤ 12) (hw : w.Ok r ys) (hs : w.Sh) (hf : w.fin ys = w.room) (hb : Bd 24 w) (hl : w.passes.length ≤ 100)
    (hQ : ∀ t, Q .nx ⟨[s0, s1, s2, s3, s4, .val (dsD ys), .val (houseD r (dsD ys)), s7, s8, s9, s10, s11, s12, s13, s14, .val w.d, t, s17, s18, s19, s20, s21, s22], S⟩) :
    ∀ {ts : List Int} {t : Slot}, (∀ t ∈ ts, t.natAbs ≤ 9) → wp (forS (tgN 16) (bTimes K) (ts.map D.int) ⟨[s0, s1, s2, s3, s4, .val (dsD ys), .val (houseD r (dsD ys)), s7, s8, s9, s10, s11, s12, s13, s14, .val w.d, t, s17, s18, s19, s20, s21, s22], S⟩) Q := by
  intro ts
  induction ts with
  | nil => intro t _; exact hQ t
  | cons t ts IH =>
    intro s16 ht
    have t9 := ht t List.mem_cons_self
    have ih := fun s => IH (t := s) fun u hu => ht u (List.mem_cons_of_mem _ hu)
    have hb0 : wp (bTimes K ⟨[s0, s1, s2, s3, s4, .val (dsD ys), .val (houseD r (dsD ys)), s7, s8, s9, s10, s11, s12, s13, s14, .val w.d, .val (.int t), s17, s18, s19, s20, s21, s22], S⟩) (fun fl Γ2 => fl = .nx ∧ Γ2 = ⟨[s0, s1, s2, s3, s4, .val (dsD ys), .val (houseD r (dsD ys)), s7, s8, s9, s10, s11, s12, s13, s14, .val w.d, .val (.int t), s17, s18, s19, s20, s21, s22], S⟩) := by
     have ab : (if t < 0 then -t else t) = t.natAbs := abs_nat t
     have mu : mulD (.int (w.passes.length : Int)) (.int (t.natAbs : Int)) = some (.int ((w.passes.length * t.natAbs : Nat) : Int)) := by
       rw [mulD_small (small_nb (by omega))]; simp
     by_cases h60 : w.passes.length * t.natAbs ≤ 60
     · have h60' : t.natAbs * w.passes.length ≤ 60 := by rw [Nat.mul_comm]; exact h60
       have e1 := fun S => power_eq X (S := S) hw hs hf t9 h60'
       have e2 := fun S => k01_power_eq (K := K) (S := S) hw hs hf t9 h60'
       have oo : (oneW ys w t).Ok r ys := by
         unfold oneW; split
         · exact hw
         · exact backW_ok hg hw
       have ob : Bd 24 (oneW ys w t) := by
         unfold oneW; split
         · exact hb
         · exact hb.back
       have rf : (oneW ys w t).room = w.room ∧ (oneW ys w t).fin ys = (oneW ys w t).room := by
         unfold oneW; split
         · exact ⟨rfl, hf⟩
         · exact ⟨hf, by rw [backW_fin hw]; exact hf.symm⟩
       have pk := powL_ok oo rf.2 t.natAbs (stand_ok (ys := ys) hw.r0 hw.r1) rf.1.symm
       have pl : (powL (oneW ys w t) t.natAbs (stand w.room)).passes.length ≤ 60 := by
         rw [powL_len, (oneW_len (ys := ys) (w := w) t).2]
         simpa [stand] using h60'
       have pb := ob.pow (oneW_sh hs t).a t.natAbs (B := 0) (f := stand w.room) (by intro x hx; simp [stand] at hx; rw [hx]; decide) (by simp [stand])
       obtain ⟨s, es, ne⟩ := show_w pk (pk.sh (by omega)) (by omega) (by omega) pb (by omega)
       have le : ((w.passes.length * t.natAbs : Nat) : Int) ≤ 60 := by omega
       simp only [Int.natCast_mul] at mu le
       unfold bTimes
       simp [-wp_for_cons, ix_w2, ab, mu, le, e1, e2, es, ne]
     · have le : ¬ ((w.passes.length * t.natAbs : Nat) : Int) ≤ 60 := by omega
       simp only [Int.natCast_mul] at mu le
       unfold bTimes
       simp [-wp_for_cons, ix_w2, ab, mu, le]
    show wp (forS _ _ (D.int t :: ts.map D.int) _) Q
    rw [wp_for_cons]
    refine ⟨_, rfl, ?_⟩
    refine wp_mono hb0 fun fl Γ2 q => ?_
    obtain ⟨rfl, rfl⟩ := q
    exact ih _
@[irreducible] def bWord (K : PySem.W.Frag) : SM := (ifS (boolM (binM neD (callM 1 (F__law_rc_word K) (consA (caughtM (TL K) EXN [] (callM 3 (F_joined K) (consA (varM 6) (consA (varM 18) (consA (varM 19) nilA))))) nilA)) (varM 20))) (retS (retM (.bl false))) skipS)
include Y in
theorem words_ok {S : DrawSt} {Q : Fl → G → Prop} {h : D} (hT : S.T = TL K) {s0 s1 s2 s3 s4 s5 s7 s8 s9 s10 s11 s12 s13 s14 s15 s16 s17 s21 s22 : Slot}
    (hQ : ∀ t u v, Q .nx ⟨[s0, s1, s2, s3, s4, s5, .val h, s7, s8, s9, s10, s11, s12, s13, s14, s15, s16, s17, t, u, v, s21, s22], S⟩) :
    ∀ {ts : List (D × D)} {t u v : Slot}, (∀ p ∈ ts, F_joined K [h, p.1, p.2] S = .exc "BadWalk" S) → wp (forS (tgT 3 (tgCons (tgN 18) (tgCons (tgN 19) (tgCons (tgN 20) tgNil)))) (bWord K) (ts.map fun p => .tup [p.1, p.2, .str "walk"]) ⟨[s0, s1, s2, s3, s4, s5, .val h, s7, s8, s9, s10, s11, s12, s13, s14, s15, s16, s17, t, u, v, s21, s22], S⟩) Q := by
  intro ts
  induction ts with
  | nil => intro t u v _; exact hQ t u v
  | cons p ts IH =>
    intro t u v hp
    have ih := fun t u v => IH (t := t) (u := u) (v := v) fun q hq => hp q (List.mem_cons_of_mem _ hq)
    have e := hp p List.mem_cons_self
    have w3 := word_eq Y (S := S) (n := "BadWalk") (by decide) (by decide)
    have n3 : neD (.str (wordOf "BadWalk")) (.str "walk") = some (.bl false) := (str_self (by decide +kernel)).1
    have hb0 : wp (bWord K ⟨[s0, s1, s2, s3, s4, s5, .val h, s7, s8, s9, s10, s11, s12, s13, s14, s15, s16, s17, .val p.1, .val p.2, .val (.str "walk"), s21, s22], S⟩) (fun fl Γ2 => fl = .nx ∧ Γ2 = ⟨[s0, s1, s2, s3, s4, s5, .val h, s7, s8, s9, s10, s11, s12, s13, s14, s15, s16, s17, .val p.1, .val p.2, .val (.str "walk"), s21, s22], S⟩) := by
      unfold bWord
      rw [wp_ifS, wp_bool, wp_bin, wp_call, wp_consA]
      refine wp_caughtC (ds := [h, p.1, p.2]) hT ?_ rfl e (by decide) ?_
      · simp [frzAt, maskG, maskS]
      simp [-wp_for_cons, frzAt, w3, n3]
    show wp (forS _ _ (D.tup [p.1, p.2, .str "walk"] :: ts.map _) _) Q
    rw [wp_for_cons]
    refine ⟨_, rfl, ?_⟩
    refine wp_mono hb0 fun fl Γ2 q => ?_
    obtain ⟨rfl, rfl⟩ := q
    exact ih _ _ _
end
end LK01
set_option maxRecDepth 100000
set_option maxHeartbeats 4000000
namespace DS
open PySem PySem.Spec L2
theorem sql_fr {K : PySem.W.Frag} {H : Hp} {a : Addr} {xs : List V} (h : SqL K H a xs) : ∃ Fa : Option HO, (∀ o, Fa = some o → H a = some o ∧ NT o) ∧ ∀ F : Hp, ((∃ o, Fa = some o) → F a = Fa) → SqL K F a xs := by
  rcases h with (h | ⟨o, h⟩) | h
  · exact ⟨some (.lst xs), (fun o e => by cases e; exact ⟨h, plo_lst.1⟩), fun F e => .inl (.inl (e ⟨_, rfl⟩))⟩
  · exact ⟨some (.frz o (.lst xs)), (fun o' e => by cases e; exact ⟨h, fun _ z => HO.noConfusion z⟩), fun F e => .inl (.inr ⟨o, e ⟨_, rfl⟩⟩)⟩
  · exact ⟨none, (fun o e => by cases e), fun F _ => .inr h⟩
def gh00 : Gh := ⟨fun _ => none, fun _ => none, fun _ => none, none⟩
/-- behind state = _law_begun(script) the data layer holds -/
theorem law_rel {K : PySem.W.Frag} {H H' : Hp} {a g c p : Addr} {ns : List Int} {T : List (Addr × Str)} {N : List Str} (hs : SqL K H a (ns.map V.int)) (n1 : g ≠ c) (n2 : g ≠ p) (n3 : c ≠ p) (hg : H g = none) (hc : H c = none) (hp : H p = none)
    (e1 : H' g = some (.lst ((greatOf ns).map V.int))) (e2 : H' c = some (.lst ((cellsOf ns).map V.int))) (e3 : H' p = some (stDict g c ⟨greatOf ns, cellsOf ns, 0, 0, []⟩)) (old : ∀ b, b ≠ g → b ≠ c → b ≠ p → H' b = H b) (hT : ∀ q ∈ T, H q.1 = some (.tbl #[])) (hN : 2 ≤ N.length) :
    ∃ F, Rel ⟨K, p, g⟩ gh00 F H' ((L2.start N [V.ref a]).set 1 (some (.ref p))) ⟨.val (.scr ns) :: .val .st :: List.replicate (N.length - 2) .un, ⟨greatOf ns, cellsOf ns, 0, 0, T⟩⟩ := by
  obtain ⟨Fa, f1, f2⟩ := sql_fr hs
  let F : Hp := fun b => if b = c then H' c else if b = a then Fa else none
  have Fc : F c = some (.lst ((cellsOf ns).map V.int)) := by show (if c = c then H' c else _) = _; rw [if_pos rfl, e2]
  have an : ∀ b, H b = none → (∃ o, Fa = some o) → a ≠ b := fun b hb ⟨o, ho⟩ z => by have := (f1 o ho).1; rw [z, hb] at this; cases this
  have Fa' : (∃ o, Fa = some o) → F a = Fa := fun ho => by show (if a = c then H' c else if a = a then Fa else none) = Fa; rw [if_neg (an c hc ho), if_pos rfl]
  have Fo : ∀ b, b ≠ c → H b = none → F b = none := fun b h1 h2 => by
    show (if b = c then H' c else if b = a then Fa else none) = none
    rw [if_neg h1]
    split
    · rename_i hba
      cases hFa : Fa with
      | none => rfl
      | some o => exact absurd hba.symm (an b h2 ⟨o, hFa⟩)
    · rfl
  have at_ : ∀ b o, F b = some o → (b = c ∧ o = .lst ((cellsOf ns).map V.int)) ∨ (b = a ∧ H a = some o ∧ NT o) := fun b o e => by
    by_cases h1 : b = c
    · subst h1; rw [Fc] at e; cases e; exact .inl ⟨rfl, rfl⟩
    · have e' : (if b = c then H' c else if b = a then Fa else none) = some o := e
      rw [if_neg h1] at e'
      split at e'
      · rename_i h2
        subst h2
        obtain ⟨z1, z2⟩ := f1 o e'
        exact .inr ⟨rfl, z1, z2⟩
      · cases e'
  have hst : (L2.start N [V.ref a]).set 1 (some (.ref p)) = some (.ref a) :: some (.ref p) :: List.replicate (N.length - 2) none := by
    unfold L2.start
    obtain ⟨m, hm⟩ : ∃ m, N.length = m + 2 := ⟨N.length - 2, by omega⟩
    rw [hm]
    rfl
  refine ⟨F, fun b o e => ?_, (fun b o e => by cases e), fun b o e => ?_, (fun b o e => by cases e), ?_, fun i s e => ?_, fun i j x s t _ e1 _ h1 => ?_, ⟨c, e3, e1, Fc, Fo p (Ne.symm n3) hp, Fo g n1 hg, Ne.symm n2⟩, fun q hq => ?_, fun b o e => ?_⟩
  · rcases at_ b o e with ⟨rfl, rfl⟩ | ⟨rfl, h, _⟩
    · exact e2
    · rw [old b (ne_of_none h hg) (ne_of_none h hc) (ne_of_none h hp)]; exact h
  · exact absurd e.1 (fun z => by rcases z with z | z <;> cases z)
  · rw [hst]; simp
  · rw [hst]
    match i with
    | 0 => cases e; exact ⟨_, rfl, _, rfl, .scr (f2 F Fa')⟩
    | 1 => cases e; exact ⟨_, rfl, _, rfl, .st⟩
    | i + 2 =>
      have e' : (List.replicate (N.length - 2) Slot.un)[i]? = some s := by simpa using e
      rw [List.getElem?_replicate] at e'
      split at e'
      · cases e'
        rename_i hlt
        exact ⟨none, by simp [hlt], trivial⟩
      · cases e'
  · exfalso
    match i with
    | 0 => cases e1; cases h1
    | 1 => cases e1; cases h1
    | i + 2 =>
      have e' : (List.replicate (N.length - 2) Slot.un)[i]? = some s := by simpa using e1
      rw [List.getElem?_replicate] at e'
      split at e'
      · cases e'; cases h1
      · cases e'
  · have hq' := hT q hq
    refine LamX.TabS.nil ?_
    rw [old q.1 (ne_of_none hq' hg) (ne_of_none hq' hc) (ne_of_none hq' hp)]; exact hq'
  · rcases at_ b o e with ⟨rfl, rfl⟩ | ⟨_, _, z⟩
    · exact plo_lst.1
    · exact z
end DS
set_option maxRecDepth 100000
set_option maxHeartbeats 4000000
namespace DSE
open PySem PySem.Spec PyProof.Rows L2 SX
/-- a law's call from the caller's place, with tables (HandS.EndTab's road, for a def that is run at that very place) -/
theorem law_callA {P : Program} {w : World} {K : PySem.W.Frag} {mg mb : Str → Option Value} {CX : CXT} {fa a : Addr} {cs : List (Addr × Addr)} {s₁ : Shared} {vs : List Value} {ns : List Int}
    (KX : K.In s₁.heap) (hns : s₁.heap.Ns mainGlobals mg) (hb : s₁.heap.Ns builtinsNs mb) (hbb : ∀ x : Str, x ≠ "__name__" → mb x = bootBuiltins x) (hlim : s₁.heap.NoLimit) (hg : s₁.gens = #[])
    (hT : ∀ p ∈ cs, s₁.heap.get? p.2 = some { cls := .none, data := .fields #[] }) (nT : ∀ p ∈ cs, K.lookup p.2 = none) (C : ∀ p ∈ cs, PySem.W.CodeHd s₁.heap p.1 p.2)
    (hbm : ∃ (bm : Addr) (ob : Obj), mg "__builtins__" = some (.ref bm) ∧ bm ≠ builtinsNs ∧ s₁.heap.get? bm = some ob ∧ ob.cls = .type "module" ∧ ob.dict = some builtinsNs ∧ ob.data = .plain)
    (ha : s₁.heap.get? a = some { cls := .type "list", data := .seq vs.toArray }) (hi : IntsAre vs ns) (hl : ns.length ≤ sizeLine)
    (F : ∀ (base : Heap) (H : Hp), K.In base → base.Ns mainGlobals mg → (∀ p ∈ cs, LamX.TabB base mg p.1 p.2) → Env0 P w K mg base callerA [] s₁ H → (∀ p ∈ cs, H p.2 = some (.tbl #[])) → SqL K H a (ns.map V.int) →
      codeAny (model P w) callerA (.call (.ref fa) ⟨[.ref a], []⟩) (CR CX [] P w H s₁ (fun v _ => v = .bl true) fun _ _ _ => False) s₁)
    (hCX : ∀ H e s', CX [] H s₁ (fun _ _ _ => False) e s' → False) :
    codeAny (model P w) callerA (.call (.ref fa) ⟨[.ref a], []⟩) (fun r s' => r = .ok (.ret (.bool true)) ∧ OldK s₁.heap s'.heap ∧ s'.os = s₁.os ∧ AllBare s'.gens) s₁ := by
  have rv := vals_ints hi
  have lenV := hi.length
  have isT : ∀ b : Addr, b ∈ cs.map (·.2) → s₁.heap.get? b = some { cls := .none, data := .fields #[] } := fun b hb => by
    obtain ⟨p, hp, e⟩ := List.mem_map.mp hb
    rw [← e]
    exact hT p hp
  have aT : a ∉ cs.map (·.2) := fun z => by
    have q := isT a z
    rw [ha] at q
    have z' : Data.seq vs.toArray _ = Data.fields #[] := congrArg Obj.data (Option.some.inj q)
    cases z'
  have memT : ∀ p ∈ cs, p.2 ∈ cs.map (·.2) := fun p hp => List.mem_map.mpr ⟨p, hp, rfl⟩
  -- from an abstract heap in which nothing but the script and the tables may be tracked
  have core : ∀ H : Hp, (∀ p ∈ cs, H p.2 = some (.tbl #[])) → (∀ b, H b = none ∨ b ∈ cs.map (·.2) ∨ ∃ o xs, H b = some (.frz o (.lst xs))) → SqL K H a (ns.map V.int) → HOk P w H s₁.heap → (∀ b, H b ≠ none → b = a ∨ b ∈ cs.map (·.2)) → (H a ≠ none → K.lookup a = none) →
      codeAny (model P w) callerA (.call (.ref fa) ⟨[.ref a], []⟩) (fun r s' => r = .ok (.ret (.bool true)) ∧ OldK s₁.heap s'.heap ∧ s'.os = s₁.os ∧ AllBare s'.gens) s₁ := by
    intro H hH hO hS hok hA hK
    have base_of : ∀ {b : Addr} {o : Obj}, s₁.heap.get? b = some o → H b = none → (hidT s₁.heap H).get? b = some o := fun e n => hidT_get e n
    have noD : ∀ {b : Addr} {o : Obj}, s₁.heap.get? b = some o → (∀ vs n, o.data ≠ .seq vs n) → o.data ≠ .fields #[] → H b = none := fun {b o} e h1 h2 => by
      cases q : H b with
      | none => rfl
      | some u =>
        rcases hA b (by rw [q]; simp) with e' | e'
        · rw [e', ha] at e
          cases e
          exact (h1 _ _ rfl).elim
        · rw [isT b e'] at e
          cases e
          exact (h2 rfl).elim
    have noA : ∀ {b : Addr} {o : Obj} {es : Array DictEntry} {ep : Nat}, s₁.heap.get? b = some o → o.data = .dict es ep → H b = none := fun {b o es ep} e d => by
      refine noD e (fun vs n z => ?_) fun z => ?_
      · rw [d] at z
        cases z
      · rw [d] at z
        cases z
    have nsK : ∀ {b : Addr} {m : Str → Option Value}, s₁.heap.Ns b m → (hidT s₁.heap H).Ns b m := fun {b m} ⟨o, es, ep, e, d, r⟩ => ⟨o, es, ep, base_of e (noA e d), d, r⟩
    have hKb : K.In (hidT s₁.heap H) := fun b o e => base_of (KX b o e) (by
      cases q : H b with
      | none => rfl
      | some u =>
        rcases hA b (by rw [q]; simp) with e' | e'
        · rw [e'] at e q
          rw [hK (by rw [q]; simp)] at e
          cases e
        · obtain ⟨p, hp, ep⟩ := List.mem_map.mp e'
          rw [← ep, nT p hp] at e
          cases e)
    have hM : L2.Mod K mg (hidT s₁.heap H) := ⟨hKb, nsK hns, ⟨mb, nsK hb, hbb⟩, let ⟨mc, h1, h2⟩ := hlim; ⟨mc, nsK h1, h2⟩⟩
    have TB : ∀ p ∈ cs, LamX.TabB (hidT s₁.heap H) mg p.1 p.2 := fun p hp => by
      have hTp := hT p hp
      refine ⟨?_, ?_, fun z => ?_⟩
      · obtain ⟨o, us, file, tf, flags, tg, inF, text, tt, e1, r1, r2, r3, r4, r5, r6, r7, r8, hne⟩ := C p hp
        refine ⟨o, us, file, tf, flags, tg, inF, text, tt, base_of e1 (noD e1 (fun vs n z => ?_) fun z => ?_), r1, r2, r3, r4, r5, r6, r7, r8, hne⟩
        · rw [r2] at z
          cases z
        · rw [r2] at z
          cases z
          simp at r3
      · obtain ⟨bm, ob, b1, b2, b3, b4, b5, b6⟩ := hbm
        have nG : bm ≠ mainGlobals := fun q => by
          obtain ⟨o, es, ep, e, hd, _⟩ := hns
          rw [q, e] at b3
          cases b3
          rw [hd] at b6
          cases b6
        have nP : bm ≠ p.2 := fun q => by
          rw [q, hTp] at b3
          cases b3
          cases b6
        refine ⟨bm, ob, b1, b2, nG, nP, base_of b3 (noD b3 (fun vs n z => ?_) fun z => ?_), b4, b5, b6⟩
        · rw [b6] at z
          cases z
        · rw [b6] at z
          cases z
      · obtain ⟨o, es, ep, e, hd, _⟩ := hns
        rw [z, hTp] at e
        cases e
        cases hd
    have e0 : Env0 P w K mg (hidT s₁.heap H) callerA [] s₁ H := ⟨rfl, hM, fun b o e => of_hidT e, Nat.le_of_eq (hidT_size _ _), trivial, fun b hb => absurd (show b ∈ ([] : List Addr) from hb) (by simp), hok, .of_eq hg⟩
    refine codeAny_mono (F _ H hKb (nsK hns) TB e0 hH hS) fun r s' h => ?_
    cases r with
    | error e => exact (hCX H e s' h).elim
    | ok fl =>
      cases fl with
      | next => exact False.elim h
      | brk => exact False.elim h
      | cont => exact False.elim h
      | ret u =>
        obtain ⟨v, H', os, bare, un, hok', r', q⟩ := h
        have q' : v = .bl true := q
        subst q'
        obtain rfl : u = Value.bool true := r'
        have key : ∀ b o, b ∉ cs.map (·.2) → s₁.heap.get? b = some o → s'.heap.get? b = some o := fun b o nb e => by
          cases q : H b with
          | none => exact un.keep b o e q (by intro z; exact absurd (show b ∈ ([] : List Addr) from z) (by simp)) (by simp)
          | some u =>
            rcases hO b with z | z | ⟨ob, xs, z⟩
            · rw [q] at z; cases z
            · exact absurd z nb
            · have z2 := un.frzs b ob _ z
              obtain ⟨e1, _⟩ := hok b _ z
              obtain ⟨e2, _⟩ := hok' b _ z2
              rw [e] at e1; cases e1
              exact e2
        have grown : ∀ p ∈ cs, ∃ more : Array Value, s'.heap.get? p.2 = some { cls := .none, data := .fields more } := fun p hp => by
          obtain ⟨more, z⟩ := un.tbls p.2 #[] (hH p hp)
          exact ⟨_, hok' p.2 _ z⟩
        refine ⟨rfl, ⟨fun b o e => ?_, fun b o e => ?_⟩, os, bare⟩
        · by_cases hb : b ∈ cs.map (·.2)
          · obtain ⟨p, hp, ep⟩ := List.mem_map.mp hb
            obtain ⟨more, hm⟩ := grown p hp
            rw [← ep] at e ⊢
            rw [hT p hp] at e
            cases e
            exact .inr (.inl ⟨((C p hp).tab (hT p hp)).isCodeTable, rfl, #[], more, rfl, by rw [Array.empty_append]; exact hm⟩)
          · exact .inl (key b o hb e)
        · by_cases hb : b ∈ cs.map (·.2)
          · obtain ⟨p, hp, ep⟩ := List.mem_map.mp hb
            obtain ⟨more, hm⟩ := grown p hp
            rw [← ep]
            exact ⟨_, hm⟩
          · exact ⟨o, key b o hb e⟩
  cases hk : K.lookup a with
  | some o =>
    have e := KX a o hk
    rw [ha] at e
    cases e
    refine core (fun b => if b ∈ cs.map (·.2) then some (.tbl #[]) else none) (fun p hp => if_pos (memT p hp)) (fun b => ?_) (.inr ⟨_, vs.toArray, _, hk, rfl, rfl, rfl, by rw [List.size_toArray, lenV]; exact hl, by simpa using rv⟩) (fun b u z => ?_) (fun b z => ?_) fun z => absurd (show (if a ∈ cs.map (·.2) then some (HO.tbl #[]) else none) = none from if_neg aT) z
    · by_cases hb : b ∈ cs.map (·.2)
      · exact .inr (.inl hb)
      · exact .inl (if_neg hb)
    · by_cases hb : b ∈ cs.map (·.2)
      · have z' := (if_pos hb).symm.trans z
        cases z'
        exact isT b hb
      · have z' := (if_neg hb).symm.trans z
        cases z'
    · by_cases hb : b ∈ cs.map (·.2)
      · exact .inr hb
      · exact absurd (if_neg hb) z
  | none =>
    refine core (fun b => if b = a then some (.frz { cls := .type "list", data := .seq vs.toArray } (.lst (ns.map V.int))) else if b ∈ cs.map (·.2) then some (.tbl #[]) else none) (fun p hp => (if_neg (show ¬ p.2 = a from fun z => aT (by rw [← z]; exact memT p hp))).trans (if_pos (memT p hp))) (fun b => ?_)
      (.inl (.inr ⟨{ cls := .type "list", data := .seq vs.toArray }, if_pos rfl⟩)) (fun b u z => ?_) (fun b z => ?_) fun _ => hk
    · by_cases hb : b = a
      · exact .inr (.inr ⟨_, _, if_pos hb⟩)
      · by_cases hb2 : b ∈ cs.map (·.2)
        · exact .inr (.inl hb2)
        · exact .inl ((if_neg hb).trans (if_neg hb2))
    · by_cases hb : b = a
      · have z' := (if_pos hb).symm.trans z
        cases z'
        rw [hb]
        exact ⟨ha, by rw [List.length_map]; exact hl, vs, _, rv, ha⟩
      · have z1 := (if_neg hb).symm.trans z
        by_cases hb2 : b ∈ cs.map (·.2)
        · have z' := (if_pos hb2).symm.trans z1
          cases z'
          exact isT b hb2
        · have z' := (if_neg hb2).symm.trans z1
          cases z'
    · by_cases hb : b = a
      · exact .inl hb
      · by_cases hb2 : b ∈ cs.map (·.2)
        · exact .inr hb2
        · exact absurd ((if_neg hb).trans (if_neg hb2)) z
theorem walk_ofA {l : PySem.W.OpenLaw} {n : Nat} {q : Program} {loose : List Str} {XP : (Str → Option Value) → Heap → Prop} {YP : World → Heap → Prop} {d : DefRec} {CX : World → CXT}
    (hn : l.most = some n) (hn2 : n ≤ sizeLine) (hdf : d.params.defaults = [])
    (F : ∀ (w : World) (mg : Str → Option Value) (fa : Addr) (s₁ : Shared), YP w s₁.heap → s₁.heap.Ns mainGlobals mg → mg d.name = some (.ref fa) →
      ∃ (K : PySem.W.Frag) (cs : List (Addr × Addr)), K.In s₁.heap ∧ (∀ p ∈ cs, s₁.heap.get? p.2 = some { cls := .none, data := .fields #[] }) ∧ (∀ p ∈ cs, K.lookup p.2 = none) ∧ (∀ p ∈ cs, PySem.W.CodeHd s₁.heap p.1 p.2) ∧
        ∀ (a : Addr) (ns : List Int) (base : Heap) (H : Hp), ns.length ≤ n → (∀ z ∈ ns, Builtin.Int.intBits z ≤ 1048576) → K.In base → base.Ns mainGlobals mg → (∀ p ∈ cs, LamX.TabB base mg p.1 p.2) → Env0 l.prog w K mg base callerA [] s₁ H → (∀ p ∈ cs, H p.2 = some (.tbl #[])) → SqL K H a (ns.map V.int) →
          codeAny (model l.prog w) callerA (.call (.ref fa) ⟨[.ref a], []⟩) (CR (CX w) [] l.prog w H s₁ (fun v _ => v = .bl true) fun _ _ _ => False) s₁)
    (hCX : ∀ (w : World) (H : Hp) (s : Shared) (e : Value) (s' : Shared), CX w [] H s (fun _ _ _ => False) e s' → False) :
    PySem.W.WalkO q loose XP YP l.row.toRowW d [] (fun f vs => PySem.call f vs) := by
  refine Att.attach_callB hn hdf fun w s₀ s₁ mg mb fa o pm cd doc a vs ns G Y ho hd hcd hmg hobj hints hlen hbits hg => ?_
  obtain ⟨K, cs, KX, hT, nT, C, hF⟩ := F w mg fa s₁ Y G.T.g hmg
  exact law_callA KX G.T.g G.T.b G.T.builtins G.T.nolimit hg hT nT C G.T.bmain hobj hints (Nat.le_trans hlen hn2) (fun base H h1 h2 h3 h4 h5 h6 => hF a ns base H hlen hbits h1 h2 h3 h4 h5 h6) fun H e s' => hCX w H s₁ e s'
end DSE
set_option maxRecDepth 100000
set_option maxHeartbeats 4000000
namespace LK01
open PySem PySem.Spec L2 DS PR
abbrev N__law_begun : List PySem.Str := ["script", "great", "cell"]
theorem sc__law_begun : FnScope N__law_begun ["script"] (defScope (top 47)) := ⟨rfl, rfl, rfl, by decide +kernel, rfl, by decide +kernel, by decide +kernel⟩
section
variable {P : Program} {w : World} {K : PySem.W.Frag} {mg : PySem.Str → Option Value} {base : Heap}
theorem b__law_begun (W : Fx K mg) (cdv : Value) (A : Around) (outer : List Env) (s : Shared) (H : Hp) (E : XK) :
    PSs (cxOf (L2.CX P w) P w K mg base N__law_begun "_law_begun" (defScope (top 47)) (ce K "_law_begun") cdv A outer s H E) (defBody (top 47)) (t_begun K) := by
  have hND : (N__law_begun).Nodup := sc__law_begun.nd
  exact pss_cons (ps_setLc (i := 1) (own := [("cell", 2)]) rfl hND rfl rfl (sw_true rfl rfl rfl (by decide +kernel)) (pi_list (pe_var rfl (Or.inl rfl) (by decide) (by decide)))
      (show BlkOk N__law_begun (defScope (top 47)) _ _ from blkOk_by (by decide +kernel)) (fun _ _ _ _ _ => pg_name hND rfl (Or.inl rfl)) (fun _ _ _ _ _ => pts_one (pt_G (pe_ab 2 rfl W.fr_abs) pe_big)) (fun _ _ _ _ _ => pe_G (pe_ab 2 rfl W.fr_abs) pe_big))
    (pss_one (ps_ret (pe_disp (pps_cons pe_str (pe_var rfl (Or.inl rfl) (by decide) (by decide)) (pps_cons pe_str (pe_lc (own := [("cell", 2)]) rfl hND (pi_list (pe_var rfl (Or.inl rfl) (by decide) (by decide)))
      (show BlkOk N__law_begun (defScope (top 47)) _ _ from blkOk_by (by decide +kernel)) (fun _ _ _ _ _ => pg_name hND rfl (Or.inl rfl)) (fun _ _ _ _ _ => pts_nil) (fun _ _ _ _ _ => pe_ab 2 rfl W.fr_abs)) (pps_cons pe_str pe_int (pps_cons pe_str pe_int pps_nil)))) rfl rfl (by simp) (by simp))))
theorem ok__law_begun (W : Fx K mg) : ∃ fd : FuncData, PySem.W.keepIn K (.ref (ce K "_law_begun")) = true ∧ Binds K fd ["script"] [] ∧ FnOk P w K mg base (L2.CX P w) 1 (ce K "_law_begun") fd ["script"] (spBegun K) := by
  obtain ⟨fd, F⟩ := W.d__law_begun
  refine ⟨fd, F.kp, F.bindsN (fun _ _ _ _ _ _ us hl => match us, hl with | [_], _ => rfl), F.ok sc__law_begun (fun vs H Q E h => ?_) fun cdv A outer s H vs Q E hr h => ⟨_, b__law_begun W cdv A outer s H E, begun_pure h⟩⟩
  obtain ⟨a, ns, rfl, _⟩ := h
  rfl
/-- the state of the law's frame behind its first statement -/
def G0 (K : PySem.W.Frag) (ns : List Int) : G := ⟨.val (.scr ns) :: .val .st :: List.replicate (N_law.length - 2) .un, ⟨greatOf ns, cellsOf ns, 0, 0, TL K⟩⟩
theorem law_run (W : Fx K mg) {a : Addr} {ns : List Int} {s : Shared} {H : Hp} (TB : LamX.TabB base mg (He.cT K ("law", none)).1 (He.cT K ("law", none)).2) (e0 : Env0 P w K mg base callerA [] s H) (hT : H (He.cT K ("law", none)).2 = some (.tbl #[])) (hS : SqL K H a (ns.map V.int)) (hn : ns.length ≤ 16777216)
    (pure : ∃ Γ, m_law K (G0 K ns) = .ok (.ret (.bl true)) Γ) :
    codeAny (model P w) callerA (.call (.ref (ce K "law")) ⟨[.ref a], []⟩) (CR (L2.CX P w) [] P w H s (fun v _ => v = .bl true) fun _ _ _ => False) s := by
  obtain ⟨fd, FL⟩ := W.d_law
  have hbL := FL.bindsN (ps := ["script"]) (fun _ _ _ _ _ _ us hl => match us, hl with | [_], _ => rfl)
  obtain ⟨oc, od, dV, kV, doc, pm, an, cdv, ct, osl, rfl, lk, hcd, _, _⟩ := FL.ex
  obtain ⟨cc, ec⟩ := He.codeIn_ref hcd
  have hcode : cdv = .ref (He.cT K ("law", none)).1 := by
    rw [ec]
    exact congrArg Value.ref (He.codeOf_eq (p := ("law", none)) lk ec).symm
  have hr : Room (21 + 1) callerA := ⟨rfl, by decide +kernel, by decide +kernel⟩
  refine LamX.run_ofS (N := N_law) (ps := ["script"]) (us := [.ref a]) (vs := [.ref a]) lk hcd sc_law hr e0 (hbL s [.ref a] (e0.mod.kin.keeps fun b o e => (e0.bs b o e).1) rfl) (.cons rfl .nil) rfl fun hr' => ?_
  obtain ⟨fdb, kpb, hbb, okb⟩ := ok__law_begun (P := P) (w := w) (base := base) W
  have hND : (N_law).Nodup := sc_law.nd
  refine ⟨_, pss_cons (ps_set (i := 1) hND rfl (by first | exact Or.inl rfl | exact Or.inr rfl) (pe_call (dvs := []) okb (hr'.mono (by decide)) rfl W.g__law_begun kpb hbb .nil (passC (E := fun _ _ _ => False)) (pa_cons (pe_var (i := 0) rfl (by first | exact Or.inl rfl | exact Or.inr (Or.inl rfl)) (by decide) (by decide)) pa_nil)))
    (b_law W TB cdv callerA [] s H (fun _ _ _ => False) rfl hcode hr'), ?_⟩
  refine ⟨_, rfl, a, ns, rfl, hS, hn, fun g c p H' n1 n2 n3 hg hc hp e1 e2 e3 old => ?_⟩
  obtain ⟨F, R⟩ := law_rel (T := TL K) (N := N_law) hS n1 n2 n3 hg hc hp e1 e2 e3 old (fun q hq => by cases List.mem_singleton.mp hq; exact hT) (by decide)
  obtain ⟨Γ, hΓ⟩ := pure
  refine ⟨_, gh00, F, _, rfl, R, ?_⟩
  have z : m_law K ⟨.val (.scr ns) :: .val .st :: List.replicate (N_law.length - 2) .un, ⟨greatOf ns, cellsOf ns, 0, 0, TL K⟩⟩ = .ok (.ret (.bl true)) Γ := hΓ
  rw [z]
  intro σ v H2 F2 _ _ r
  cases r
  rfl
end
end LK01
set_option maxRecDepth 100000
set_option maxHeartbeats 8000000
namespace LK01
open PySem PySem.Spec L2 DS PR
section
variable {K : PySem.W.Frag} (X : Kx K) (Y : Ke K EXN) {r : Int} {ys : List Dr}
@[irreducible] def c1 (K : PySem.W.Frag) : SM := (ifS (DS.orM (boolM (binM neD (appM reprD (consA (callM 3 (F_joined K) (consA (varM 6) (consA (varM 11) (consA (varM 12) nilA)))) nilA)) (appM reprD (consA (varM 14) nilA)))) (boolM (binM neD (appM reprD (consA (callKM 3 [2, 1, 0] (F_joined K) (consA (varM 12) (consA (varM 11) (consA (varM 6) nilA)))) nilA)) (appM reprD (consA (varM 14) nilA))))) (retS (retM (.bl false))) skipS)
@[irreducible] def c2 (K : PySem.W.Frag) : SM := (ifS (DS.orM (boolM (binM neD (callM 3 (F_joined K) (consA (varM 6) (consA (varM 14) (consA (varM 13) nilA)))) (callM 3 (F_joined K) (consA (varM 6) (consA (varM 11) (consA (callM 3 (F_joined K) (consA (varM 6) (consA (varM 12) (consA (varM 13) nilA)))) nilA)))))) (DS.orM (boolM (binM neD (callM 3 (F_joined K) (consA (varM 6) (consA (varM 11) (consA (callM 2 (F_standing K) (consA (varM 6) (consA (binM ixD (varM 12) (retM (.int 0))) nilA))) nilA)))) (varM 11))) (boolM (binM neD (callM 3 (F_joined K) (consA (varM 6) (consA (callM 2 (F_standing K) (consA (varM 6) (consA (binM ixD (varM 11) (retM (.int 0))) nilA))) (consA (varM 11) nilA)))) (varM 11))))) (retS (retM (.bl false))) skipS)
@[irreducible] def c3 (K : PySem.W.Frag) : SM := (ifS (DS.orM (boolM (binM neD (appM reprD (consA (callM 2 (F_back K) (consA (varM 6) (consA (varM 11) nilA))) nilA)) (appM reprD (consA (callM 2 (F__law_rc_backward K) (consA (varM 5) (consA (varM 11) nilA))) nilA)))) (DS.orM (boolM (binM neD (callM 2 (F_back K) (consA (varM 6) (consA (callM 2 (F_back K) (consA (varM 6) (consA (varM 11) nilA))) nilA))) (varM 11))) (boolM (binM neD (callM 2 (F_back K) (consA (varM 6) (consA (varM 14) nilA))) (callM 3 (F_joined K) (consA (varM 6) (consA (callM 2 (F_back K) (consA (varM 6) (consA (varM 12) nilA))) (consA (callM 2 (F_back K) (consA (varM 6) (consA (varM 11) nilA))) nilA)))))))) (retS (retM (.bl false))) skipS)
@[irreducible] def c4 (K : PySem.W.Frag) : SM := (seqS (setS 17 (lstV (lcM (List.map Prod.snd ([("room", 22)] : List (PySem.Str × Nat))) (range1M (consA (varM 4) nilA)) (tgN 22) (boolM (binM neD (varM 22) (callM 2 (F__law_rc_end K) (consA (varM 5) (consA (varM 11) nilA))))) (varM 22))))
  (ifS (DS.andM (boolM (binM neD (varM 17) (lstV (lstM nilA)))) (boolM (binM neD (callM 1 (F__law_rc_word K) (consA (caughtM (TL K) EXN [] (callM 3 (F_joined K) (consA (varM 6) (consA (varM 11) (consA (callM 2 (F_standing K) (consA (varM 6) (consA (binM ixD (varM 17) (retM (.int 0))) nilA))) nilA))))) nilA)) (retM (.str "elsewhere"))))) (retS (retM (.bl false))) skipS))
@[irreducible] def c5 (K : PySem.W.Frag) : SM := (seqS (ifS (boolM (binM neD (callM 1 (F__law_rc_word K) (consA (caughtM (TL K) EXN [] (callM 3 (F_joined K) (consA (retM .non) (consA (retM .non) (consA (retM .non) nilA))))) nilA)) (retM (.str "house")))) (retS (retM (.bl false))) skipS)
  (ifS (boolM (binM neD (callM 1 (F__law_rc_word K) (consA (caughtM (TL K) EXN [] (callM 2 (F_back K) (consA (varM 6) (consA (sliceM (varM 11) (retM none) (partM (retM (.int 2)))) nilA)))) nilA)) (retM (.str "walk")))) (retS (retM (.bl false))) skipS))
variable {a b c : Wk} {S : DrawSt} {s0 s1 s2 s3 s4 s7 s8 s9 s10 s14 s15 s16 s17 s18 s19 s20 s21 s22 : Slot}
/-- three walks one behind another -/
structure Thr (r : Int) (ys : List Dr) (a b c : Wk) : Prop where
  hg : ∀ y ∈ ys, Dr.Good r y
  hy : ys.length ≤ 20
  hr : r ≤ 12
  wa : Wd r ys a
  wb : Wd r ys b
  wc : Wd r ys c
  e1 : b.room = a.fin ys
  e2 : c.room = b.fin ys
theorem Wd.pl {w : Wk} (h : Wd r ys w) : w.pulls.length ≤ 5 := by have := h.ok.len; have := h.le; omega
theorem big2 : BIG + BIG < 10 ^ 200 := by unfold BIG; decide
section
variable (H : Thr r ys a b c)
include H
theorem Thr.ab : (joinW a b).Ok r ys ∧ (joinW a b).Sh ∧ (joinW a b).fin ys = b.fin ys := by
  have := H.wa.pl; have := H.wb.pl; have := H.wa.le; have := H.wb.le
  exact ⟨joinW_ok H.wa.ok H.wb.ok H.e1, joinW_sh H.wa.sh H.wb.sh (by omega) (by omega), joinW_fin H.e1⟩
theorem Thr.bc : (joinW b c).Ok r ys ∧ (joinW b c).Sh ∧ (joinW b c).room = b.room := by
  have := H.wb.pl; have := H.wc.pl; have := H.wb.le; have := H.wc.le
  exact ⟨joinW_ok H.wb.ok H.wc.ok H.e2, joinW_sh H.wb.sh H.wc.sh (by omega) (by omega), rfl⟩
end
section
variable {Q : Fl → G → Prop}
include X in
theorem c1_ok (H : Thr r ys a b c) (hQ : Q .nx ⟨[s0, s1, s2, s3, s4, .val (dsD ys), .val (houseD r (dsD ys)), s7, s8, s9, s10, .val a.d, .val b.d, .val c.d, .val (joinW a b).d, s15, s16, s17, s18, s19, s20, s21, s22], S⟩) :
    wp (c1 K ⟨[s0, s1, s2, s3, s4, .val (dsD ys), .val (houseD r (dsD ys)), s7, s8, s9, s10, .val a.d, .val b.d, .val c.d, .val (joinW a b).d, s15, s16, s17, s18, s19, s20, s21, s22], S⟩) Q := by
  obtain ⟨h1, h2, h3⟩ := H.ab
  have e := fun S => joined_eq X (S := S) H.wa.ok H.wa.sh H.wb.ok H.wb.sh H.e1
  have hy := H.hy
  have hr := H.hr
  obtain ⟨s, es, ne⟩ := show_w h1 h2 (by omega) (by omega) (Bd.join (a := a) (b := b) H.wa.bd H.wb.bd H.wa.sh.a H.wb.sh.a) big2
  unfold c1
  simp [e, es, ne]
  exact hQ
include X in
theorem c2_ok (H : Thr r ys a b c) (hQ : Q .nx ⟨[s0, s1, s2, s3, s4, .val (dsD ys), .val (houseD r (dsD ys)), s7, s8, s9, s10, .val a.d, .val b.d, .val c.d, .val (joinW a b).d, s15, s16, s17, s18, s19, s20, s21, s22], S⟩) :
    wp (c2 K ⟨[s0, s1, s2, s3, s4, .val (dsD ys), .val (houseD r (dsD ys)), s7, s8, s9, s10, .val a.d, .val b.d, .val c.d, .val (joinW a b).d, s15, s16, s17, s18, s19, s20, s21, s22], S⟩) Q := by
  obtain ⟨h1, h2, h3⟩ := H.ab
  obtain ⟨k1, k2, k3⟩ := H.bc
  have hb := H.wb.ok
  have ha := H.wa.ok
  have j1 := fun S => joined_eq X (S := S) h1 h2 H.wc.ok H.wc.sh (by rw [h3]; exact H.e2)
  have j2 := fun S => joined_eq X (S := S) H.wb.ok H.wb.sh H.wc.ok H.wc.sh H.e2
  have j3 := fun S => joined_eq X (S := S) H.wa.ok H.wa.sh k1 k2 H.e1
  have t1 := fun S => standing_eq X (S := S) hb.r0 hb.r1 (ds := dsD ys)
  have t2 := fun S => standing_eq X (S := S) ha.r0 ha.r1 (ds := dsD ys)
  have so1 : (stand b.room).Ok r ys := stand_ok hb.r0 hb.r1
  have so2 : (stand a.room).Ok r ys := stand_ok ha.r0 ha.r1
  have sh : ∀ x, (stand x).Sh := fun x => ⟨by simp [stand], by simp [stand], by simp [stand]⟩
  have j4 := fun S => joined_eq X (S := S) H.wa.ok H.wa.sh so1 (sh _) H.e1
  have j5 := fun S => joined_eq X (S := S) so2 (sh _) H.wa.ok H.wa.sh rfl
  rw [joinW_stand_r H.wa.sh.a] at j4
  rw [joinW_stand_l H.wa.sh.a] at j5
  rw [joinW_assoc H.wa.sh.a H.wb.sh.a H.wc.sh.a] at j1
  unfold c2
  simp [j1, j2, j3, t1, t2, j4, j5, ix_w0, wk_ne]
  exact hQ
include X in
theorem c3_ok (H : Thr r ys a b c) (hQ : Q .nx ⟨[s0, s1, s2, s3, s4, .val (dsD ys), .val (houseD r (dsD ys)), s7, s8, s9, s10, .val a.d, .val b.d, .val c.d, .val (joinW a b).d, s15, s16, s17, s18, s19, s20, s21, s22], S⟩) :
    wp (c3 K ⟨[s0, s1, s2, s3, s4, .val (dsD ys), .val (houseD r (dsD ys)), s7, s8, s9, s10, .val a.d, .val b.d, .val c.d, .val (joinW a b).d, s15, s16, s17, s18, s19, s20, s21, s22], S⟩) Q := by
  obtain ⟨h1, h2, h3⟩ := H.ab
  have hy := H.hy
  have hr := H.hr
  have ba := backW_ok H.hg H.wa.ok
  have bb := backW_ok H.hg H.wb.ok
  have sa := backW_sh (ys := ys) H.wa.sh
  have sb := backW_sh (ys := ys) H.wb.sh
  have j1 := fun S => back_eq X (S := S) H.wa.ok H.wa.sh
  have j2 := fun S => back_eq X (S := S) H.wb.ok H.wb.sh
  have j3 := fun S => back_eq X (S := S) ba sa
  have j4 := fun S => back_eq X (S := S) h1 h2
  have j5 := fun S => joined_eq X (S := S) bb sb ba sa (by rw [backW_fin H.wb.ok]; exact H.e1.symm)
  have j6 := fun S => backward_eq (K := K) (S := S) (ys := ys) H.wa.sh (chain_lt H.wa.ok.ch)
  rw [backW_back H.wa.ok] at j3
  rw [backW_join H.wa.sh.a H.wb.sh.a H.e1] at j4
  obtain ⟨s, es, ne⟩ := show_w ba sa (by omega) (by omega) (Bd.back (ys := ys) (a := a) H.wa.bd) (Nat.lt_of_le_of_lt (Nat.le_add_right BIG BIG) big2)
  unfold c3
  simp [j1, j2, j3, j4, j5, j6, es, ne, wk_ne]
  exact hQ
include X Y in
theorem c4_ok (H : Thr r ys a b c) (hT : S.T = TL K) (hQ : ∀ s17, Q .nx ⟨[s0, s1, s2, s3, .val (.int r), .val (dsD ys), .val (houseD r (dsD ys)), s7, s8, s9, s10, .val a.d, .val b.d, .val c.d, s14, s15, s16, s17, s18, s19, s20, s21, .un], S⟩) :
    wp (c4 K ⟨[s0, s1, s2, s3, .val (.int r), .val (dsD ys), .val (houseD r (dsD ys)), s7, s8, s9, s10, .val a.d, .val b.d, .val c.d, s14, s15, s16, s17, s18, s19, s20, s21, s22], S⟩) Q := by
  have hr := H.hr
  have hy := H.hy
  have r0 := H.wa.ok.r1
  have r1 := H.wa.ok.r0
  have okr : okR r = true := by unfold okR; simp; omega
  have er : rangeL 0 r = ((List.range r.toNat).map fun i : Nat => (i : Int)).map D.int := by
    unfold rangeL
    rw [List.map_map, Int.sub_zero]
    simp
  have re := fun S => rc_end_eq (K := K) (S := S) (ys := ys) (chain_lt H.wa.ok.ch)
  have row := lc_filt (vs := [22]) (tg := tgN 22) (tt := (boolM (binM neD (varM 22) (callM 2 (F__law_rc_end K) (consA (varM 5) (consA (varM 11) nilA)))))) (te := varM 22) (Γw := ⟨[s0, s1, s2, s3, .val (.int r), .val (dsD ys), .val (houseD r (dsD ys)), s7, s8, s9, s10, .val a.d, .val b.d, .val c.d, s14, s15, s16, s17, s18, s19, s20, s21, .un], S⟩) D.int (fun i => !decide (i = a.fin ys)) D.int (xs := (List.range r.toNat).map fun i : Nat => (i : Int)) (acc := []) (fun i _ => by
      refine ⟨_, rfl, res_eq ?_, fun _ => res_eq ?_, rfl⟩
      · simp [re]
        exact Classical.em _
      · simp) (by simp; omega)
  rw [List.nil_append] at row
  obtain ⟨l, el⟩ : ∃ l, l = ((List.range r.toNat).map fun i : Nat => (i : Int)).filter (fun i => !decide (i = a.fin ys)) := ⟨_, rfl⟩
  rw [← el] at row
  have hm : ∀ i ∈ l, 0 ≤ i ∧ i < r ∧ i ≠ a.fin ys := fun i hi => by
    rw [el, List.mem_filter] at hi
    obtain ⟨h1, h2⟩ := hi
    obtain ⟨j, hj, rfl⟩ := List.mem_map.mp h1
    rw [List.mem_range] at hj
    exact ⟨by omega, by omega, by simpa using h2⟩
  have nn := ne_nil l
  cases l with
  | nil =>
    have nn0 : neD (.lst []) (.lst []) = some (.bl false) := nn
    unfold c4
    simp [-wp_for_cons, wipeG, wipeE, okr, er, row, nn0, -List.map_map]
    exact hQ _
  | cons y l =>
    obtain ⟨y0, y1, y2⟩ := hm y List.mem_cons_self
    have so : (stand y).Ok r ys := stand_ok y0 y1
    have sh : (stand y).Sh := ⟨by simp [stand], by simp [stand], by simp [stand]⟩
    have ej := joined_else X (S := S) H.wa.ok H.wa.sh so sh y2
    have st := fun S => standing_eq X (S := S) y0 y1 (ds := dsD ys)
    have w3 := word_eq Y (S := S) (n := "Elsewhere") (by decide) (by decide)
    have n3 : neD (.str (wordOf "Elsewhere")) (.str "elsewhere") = some (.bl false) := (str_self (by decide +kernel)).1
    have nn1 : neD (.lst (D.int y :: l.map D.int)) (.lst []) = some (.bl true) := by
      rw [show (D.int y :: l.map D.int) = (y :: l).map D.int from rfl, nn]; simp
    unfold c4
    simp [-wp_for_cons, wipeG, wipeE, okr, er, row, nn1, -List.map_map]
    refine wp_caughtC (ds := [houseD r (dsD ys), a.d, (stand y).d]) hT ?_ rfl ej (by decide) ?_
    · simp [frzAt, maskG, maskS, st]
    simp [frzAt, w3, n3]
    exact hQ _
include X Y in
theorem c5_ok (H : Thr r ys a b c) (hT : S.T = TL K) (hQ : Q .nx ⟨[s0, s1, s2, s3, s4, .val (dsD ys), .val (houseD r (dsD ys)), s7, s8, s9, s10, .val a.d, .val b.d, .val c.d, s14, s15, s16, s17, s18, s19, s20, s21, s22], S⟩) :
    wp (c5 K ⟨[s0, s1, s2, s3, s4, .val (dsD ys), .val (houseD r (dsD ys)), s7, s8, s9, s10, .val a.d, .val b.d, .val c.d, s14, s15, s16, s17, s18, s19, s20, s21, s22], S⟩) Q := by
  have w3 := word_eq Y (S := S) (n := "BadHouse") (by decide) (by decide)
  have n3 : neD (.str (wordOf "BadHouse")) (.str "house") = some (.bl false) := (str_self (by decide +kernel)).1
  have w4 := word_eq Y (S := S) (n := "BadWalk") (by decide) (by decide)
  have n4 : neD (.str (wordOf "BadWalk")) (.str "walk") = some (.bl false) := (str_self (by decide +kernel)).1
  have b3 : F_joined K [.non, .non, .non] S = .exc "BadHouse" S := joined_bad3 X
  have pa := a.pd
  have la := H.wa.sh.ln
  have cut2 : sliceD a.d none (some 2) = some (.tup [.int a.room, .tup (a.pulls.map .int)]) := rfl
  have pd2 : Pd (.tup [.int a.room, .tup (a.pulls.map .int)]) = true := by
    show (true && (Pds (a.pulls.map .int) && true)) = true
    rw [pds_int]; rfl
  have ln2 : lnB (.tup [.int a.room, .tup (a.pulls.map .int)]) = true := by
    have := H.wa.sh.b
    have e1 := lns_int a.pulls
    simp [lnB, lnsB, e1, this]
  have b4 := back_bad X (S := S) (r := r) (ys := ys) pd2 ln2 rfl
  unfold c5
  rw [wp_seq, wp_ifS, wp_bool, wp_bin, wp_call, wp_consA]
  refine wp_caughtC (ds := [.non, .non, .non]) hT ?_ rfl b3 (by decide) ?_
  · simp [frzAt, maskG, maskS]
  simp [frzAt, w3, n3]
  refine wp_caughtC (ds := [houseD r (dsD ys), .tup [.int a.room, .tup (a.pulls.map .int)]]) hT ?_ rfl b4 (by decide) ?_
  · simp [frzAt, maskG, maskS, cut2]
  simp [frzAt, w4, n4]
  exact hQ
end
end
end LK01
set_option maxRecDepth 100000
set_option maxHeartbeats 8000000
namespace LK01
open PySem PySem.Spec L2 DS PR
section
variable {K : PySem.W.Frag} (X : Kx K) (Y : Ke K EXN)
def bTurn (K : PySem.W.Frag) : SM := (seqS (setS 3 (callM 1 (F__law_rc_told K) (consA (varM 1) nilA)))
  (seqS (asgS (tgT 2 (tgCons (tgN 4) (tgCons (tgN 5) tgNil))) (varM 3))
  (seqS (parS [6, 7, 8] (consR .v (makeM "House" 2 (F_House K) (consA (varM 4) (consA (varM 5) nilA))) (consR .l (lstM nilA) (consR .v (callM 2 (F__law_draw K) (consA (varM 1) (consA (varM 4) nilA))) nilR))))
  (seqS (forM' (range1M (consA (retM (.int 3)) nilA)) (tgN 9) (bLap K))
  (seqS (asgS (tgTL 3 (tgCons (tgN 11) (tgCons (tgN 12) (tgCons (tgN 13) tgNil)))) (varM 7))
  (seqS (setS 14 (callM 2 (F__law_rc_joined K) (consA (varM 11) (consA (varM 12) nilA))))
  (seqS (c1 K)
  (seqS (c2 K)
  (seqS (c3 K)
  (seqS (setS 15 (callM 4 (F__law_rc_home K) (consA (varM 1) (consA (varM 3) (consA (binM ixD (varM 11) (retM (.int 0))) (consA (callM 2 (F__law_draw K) (consA (varM 1) (consA (retM (.int 4)) nilA))) nilA))))))
  (seqS (forM' (seqM (lstV (lstM (consA (retM (.int 0)) (consA (retM (.int 1)) (consA (negM (retM (.int 1))) (consA (retM (.int 2)) (consA (retM (.int 3)) (consA (negM (retM (.int 2))) (consA (callM 2 (F__law_pick K) (consA (varM 1) (consA (lstV (lstM (consA (retM (.int 9)) (consA (negM (retM (.int 9))) (consA (retM (.int 5)) nilA))))) nilA))) nilA)))))))))) (tgN 16) (bTimes K))
  (seqS (c4 K)
  (seqS (forM' (seqM (lstV (lstM (consA (tupM (consA (retM .non) (consA (retM .non) (consA (retM (.str "walk")) nilA)))) (consA (tupM (consA (varM 11) (consA (retM .non) (consA (retM (.str "walk")) nilA)))) (consA (tupM (consA (varM 11) (consA (lstV (appL listD (consA (varM 12) nilA))) (consA (retM (.str "walk")) nilA)))) (consA (tupM (consA (callM 1 (F__law_odd K) (consA (varM 1) nilA)) (consA (varM 12) (consA (retM (.str "walk")) nilA)))) nilA))))))) (tgT 3 (tgCons (tgN 18) (tgCons (tgN 19) (tgCons (tgN 20) tgNil)))) (bWord K))
  (c5 K))))))))))))))
theorem seqS_assoc {f g h : SM} : seqS (seqS f g) h = seqS f (seqS g h) := by
  funext Γ
  unfold seqS
  cases f Γ with
  | ok fl Γ1 => cases fl <;> rfl
  | exc _ _ => rfl
  | stuck => rfl
theorem law_eq : m_law K = (seqS (forM' (range1M (consA (binM addD (retM (.int 3)) (appM min2D (consA (appM lenD (consA (varM 0) nilA)) (consA (retM (.int 8)) nilA)))) nilA)) (tgN 2) (bTurn K)) (retS (retM (.bl true)))) := by
  unfold bTurn c1 c2 c3 c4 c5 bTimes bWord
  rw [seqS_assoc]
  rfl
include X Y in
theorem turn_ok {Q : Fl → G → Prop} {k : Nat} {S : DrawSt} {s0 s2 s3 s4 s5 s6 s7 s8 s9 s10 s11 s12 s13 s14 s15 s16 s17 s18 s19 s20 s21 s22 : Slot} (h : St (TL K) (k + 7000) S)
    (hQ : ∀ S s3 s4 s5 s6 s7 s8 s9 s10 s11 s12 s13 s14 s15 s16 s17 s18 s19 s20 s21 s22, St (TL K) k S → Q .nx ⟨[s0, .val .st, s2, s3, s4, s5, s6, s7, s8, s9, s10, s11, s12, s13, s14, s15, s16, s17, s18, s19, s20, s21, s22], S⟩) :
    wp (bTurn K ⟨[s0, .val .st, s2, s3, s4, s5, s6, s7, s8, s9, s10, s11, s12, s13, s14, s15, s16, s17, s18, s19, s20, s21, s22], S⟩) Q := by
  unfold bTurn
  rw [wp_seq]
  simp only [wp_setS, wp_call, wp_consA, wp_nilA, wp_varE]
  simp only [List.getElem?_cons_succ, List.getElem?_cons_zero, varE_val]
  refine ⟨rfl, ?_⟩
  refine told_ok (k := k + 600) (h.mono (by omega)) fun r ys S1 r1 r3 hd hy h1 => ?_
  have hy' : ys.length ≤ 20 := by omega
  have hh := fun S => house_ok (K := K) (S := S) r1 (show r ≤ 12 by omega) hd.good hd.link hy'
  have l3 : rangeL 0 3 = [.int 0, .int 1, .int 2] := rfl
  have ok3 : okR 3 = true := by decide
  simp [-wp_for_cons, tgT_mk, hh]
  refine draw_ok (k := k + 599) h1 r1 (by omega) fun x S2 x0 x1 h2 => ?_
  rw [l3]
  refine ⟨ok3, ?_⟩
  rw [wp_for_cons]
  refine ⟨_, rfl, ?_⟩
  refine lap_ok (r := r) (ys := ys) (k := k + 569) (ws := []) (h2.mono (by omega)) hd.good hy' x0 x1 (by decide) fun a S3 s10 wa ra h3 => ?_
  rw [wp_for_cons]
  refine ⟨_, rfl, ?_⟩
  obtain ⟨fa0, fa1⟩ := endR_rng hd.good wa.ok.ch wa.ok.r0 wa.ok.r1
  refine lap_ok (r := r) (ys := ys) (k := k + 539) (ws := [a]) (h3.mono (by omega)) hd.good hy' fa0 fa1 (by simp) fun b S4 s10 wb rb h4 => ?_
  rw [wp_for_cons]
  refine ⟨_, rfl, ?_⟩
  obtain ⟨fb0, fb1⟩ := endR_rng hd.good wb.ok.ch wb.ok.r0 wb.ok.r1
  refine lap_ok (r := r) (ys := ys) (k := k + 509) (ws := [a, b]) (h4.mono (by omega)) hd.good hy' fb0 fb1 (by simp) fun c S5 s10 wc rc h5 => ?_
  have H : Thr r ys a b c := ⟨hd.good, hy', by omega, wa, wb, wc, rb, rc⟩
  have jab := fun S => rc_joined_eq (K := K) (S := S) wa.sh wb.sh
  have tl : ∀ Γ, tgTL 3 (tgCons (tgN 11) (tgCons (tgN 12) (tgCons (tgN 13) tgNil))) (.lst [a.d, b.d, c.d]) Γ = some (setV 13 (.val c.d) (setV 12 (.val b.d) (setV 11 (.val a.d) Γ))) := fun Γ => rfl
  rw [wp_for_nil]
  simp only [wp_seq, wp_asg, wp_setS]
  simp only [wp_varE, List.getElem?_cons_succ, List.getElem?_cons_zero, List.map_append, List.map_cons, List.map_nil, List.cons_append, List.nil_append, varE_own, List.set_cons_succ, List.set_cons_zero]
  refine ⟨_, tl _, ?_⟩
  simp only [setV_mk, wp_call, wp_consA, wp_nilA, wp_varE, List.getElem?_cons_succ, List.getElem?_cons_zero, List.set_cons_succ, List.set_cons_zero, varE_val, jab, FOk_ok]
  refine c1_ok X H ?_
  refine c2_ok X H ?_
  refine c3_ok X H ?_
  simp [-wp_for_cons, ix_w0]
  refine draw_ok (k := k + 508) (h5.mono (by omega)) (by decide) (by decide) fun m S6 m0 m1 h6 => ?_
  obtain ⟨n, rfl⟩ : ∃ n : Nat, m = n := ⟨m.toNat, by omega⟩
  refine home_ok (r := r) (ys := ys) (k := k + 300) (m := n) (h6.mono (by omega)) hd.good hd.link (by omega) (by omega) (by omega) wa.ok.r0 wa.ok.r1 fun w S7 hw er hf hl hx h7 => ?_
  refine pick_ok (k := k + 299) (h7.mono (by omega)) (by simp) (by simp) fun d S8 hd8 h8 => ?_
  have : ∃ j : Int, d = .int j ∧ j.natAbs ≤ 9 := by
    simp at hd8
    rcases hd8 with rfl | rfl | rfl <;> exact ⟨_, rfl, by decide⟩
  obtain ⟨j, rfl, hj⟩ := this
  refine times_ok X hd.good hy' (by omega) hw (hw.sh (by omega)) (by rw [hf, er]) (fun x hx' => hx x hx') (by omega) (fun t => ?_) (ts := [0, 1, -1, 2, 3, -2, j]) (by simp; omega)
  refine c4_ok X Y H h8.tab fun s17 => ?_
  have lb := wb.sh.ln
  have lbl : listD [b.d] = some [.int b.room, .tup (b.pulls.map .int), .tup (b.passes.map Pz.d)] := rfl
  simp [-wp_for_cons, lbl]
  refine odd_in (k := k + 298) h8 fun d S9 hd9 h9 => ?_
  obtain ⟨o1, o2, o3⟩ := odd_facts hd9
  have b1 : F_joined K [houseD r (dsD ys), .non, .non] S9 = .exc "BadWalk" S9 := joined_bad1 X rfl rfl rfl
  have b2 : F_joined K [houseD r (dsD ys), a.d, .non] S9 = .exc "BadWalk" S9 := joined_bad2 X wa.ok wa.sh rfl rfl rfl
  have pdl : Pd (.lst [.int b.room, .tup (b.pulls.map .int), .tup (b.passes.map Pz.d)]) = true := b.pd
  have b3 : F_joined K [houseD r (dsD ys), a.d, .lst [.int b.room, .tup (b.pulls.map .int), .tup (b.passes.map Pz.d)]] S9 = .exc "BadWalk" S9 := joined_bad2 X wa.ok wa.sh pdl lb rfl
  have b4 : F_joined K [houseD r (dsD ys), d, b.d] S9 = .exc "BadWalk" S9 := joined_bad1 X o1 o2 (walkOk_short fun ds e => by have := o3 ds e; omega)
  refine words_ok Y h9.tab (fun t u v => ?_) (ts := [(.non, .non), (a.d, .non), (a.d, .lst [.int b.room, .tup (b.pulls.map .int), .tup (b.passes.map Pz.d)]), (d, b.d)]) (fun p hp => ?_)
  · refine c5_ok X Y H h9.tab ?_
    exact hQ _ _ _ _ _ _ _ _ _ _ _ _ _ _ _ _ _ _ _ _ _ (h9.mono (by omega))
  · simp at hp
    rcases hp with rfl | rfl | rfl | rfl
    · exact b1
    · exact b2
    · exact b3
    · exact b4
theorem great_nn : ∀ (ns : List Int), ∀ g ∈ greatOf ns, 0 ≤ g
  | [], _, h => by cases h
  | n :: r, g, h => by
    unfold greatOf at h
    split at h
    · rcases List.mem_cons.mp h with rfl | h
      · omega
      · exact great_nn r g h
    · exact great_nn r g h
include X Y in
theorem law_pure {ns : List Int} (hn : ns.length ≤ 63) : ∃ Γ, m_law K (G0 K ns) = .ok (.ret (.bl true)) Γ := by
  have key : wp (m_law K (G0 K ns)) fun fl _ => fl = .ret (.bl true) := by
    rw [law_eq]
    have hG : G0 K ns = ⟨[.val (.scr ns), .val .st, .un, .un, .un, .un, .un, .un, .un, .un, .un, .un, .un, .un, .un, .un, .un, .un, .un, .un, .un, .un, .un], ⟨greatOf ns, cellsOf ns, 0, 0, TL K⟩⟩ := rfl
    rw [hG]
    have s0 : St (TL K) 200000 ⟨greatOf ns, cellsOf ns, 0, 0, TL K⟩ := ⟨Int.le_refl _, Int.le_refl _, great_nn ns, fun c hc => by
      obtain ⟨n, _, rfl⟩ := List.mem_map.mp hc
      unfold absI; split <;> omega, by show (0 : Int) + _ ≤ LIM; decide, rfl⟩
    have ln : lenD [.scr ns] = some (.int ns.length) := rfl
    simp [-wp_for_cons, ln]
    refine ⟨by unfold okR; simp; split <;> omega, ?_⟩
    refine wp_for (fun ds Γ => ∃ S s2 s3 s4 s5 s6 s7 s8 s9 s10 s11 s12 s13 s14 s15 s16 s17 s18 s19 s20 s21 s22, ds.length ≤ 14 ∧ St (TL K) (7000 * ds.length) S ∧ Γ = ⟨[.val (.scr ns), .val .st, s2, s3, s4, s5, s6, s7, s8, s9, s10, s11, s12, s13, s14, s15, s16, s17, s18, s19, s20, s21, s22], S⟩) ?_ ?_ ?_
    · have f1 : (rangeL 0 (3 + if (8 : Int) < ns.length then (8 : Int) else (ns.length : Int))).length ≤ 14 := by unfold rangeL; simp; split <;> omega
      exact ⟨_, _, _, _, _, _, _, _, _, _, _, _, _, _, _, _, _, _, _, _, _, _, f1, s0.mono (by omega), rfl⟩
    · rintro Γ ⟨S, s2, s3, s4, s5, s6, s7, s8, s9, s10, s11, s12, s13, s14, s15, s16, s17, s18, s19, s20, s21, s22, _, _, rfl⟩
      simp
    · rintro d r Γ ⟨S, s2, s3, s4, s5, s6, s7, s8, s9, s10, s11, s12, s13, s14, s15, s16, s17, s18, s19, s20, s21, s22, hl, h, rfl⟩
      rw [List.length_cons] at hl h
      refine ⟨_, rfl, ?_⟩
      refine turn_ok X Y (k := 7000 * r.length) (h.mono (by omega)) fun S s3 s4 s5 s6 s7 s8 s9 s10 s11 s12 s13 s14 s15 s16 s17 s18 s19 s20 s21 s22 h => ?_
      exact ⟨_, _, _, _, _, _, _, _, _, _, _, _, _, _, _, _, _, _, _, _, _, _, by omega, h, rfl⟩
  revert key
  cases m_law K (G0 K ns) with
  | ok a Γ => intro key; exact ⟨Γ, by rw [show a = .ret (.bl true) from key]⟩
  | exc n S => intro key; exact key.elim
  | stuck => intro key; exact key.elim
end
end LK01
set_option maxRecDepth 100000
set_option maxHeartbeats 0
namespace LK01
open PySem PySem.Spec L2 DS PR
def dd (i : Nat) : He.DefD := ([⟨("House", some "__init__"), "__init__", "House.__init__", defArgs (clsStmt (top 27) 0), defBody (clsStmt (top 27) 0), defScope (clsStmt (top 27) 0), [], []⟩,
  ⟨("_law_begun", none), "_law_begun", "_law_begun", defArgs (top 47), defBody (top 47), defScope (top 47), [], []⟩,
  ⟨("_law_blended", none), "_law_blended", "_law_blended", defArgs (top 48), defBody (top 48), defScope (top 48), [], []⟩,
  ⟨("_law_caught", none), "_law_caught", "_law_caught", defArgs (top 52), defBody (top 52), defScope (top 52), [], []⟩,
  ⟨("_law_draw", none), "_law_draw", "_law_draw", defArgs (top 49), defBody (top 49), defScope (top 49), [], []⟩,
  ⟨("_law_k01_power", none), "_law_k01_power", "_law_k01_power", defArgs (top 68), defBody (top 68), defScope (top 68), [], []⟩,
  ⟨("_law_mixed", none), "_law_mixed", "_law_mixed", defArgs (top 51), defBody (top 51), defScope (top 51), [], []⟩,
  ⟨("_law_odd", none), "_law_odd", "_law_odd", defArgs (top 53), defBody (top 53), defScope (top 53), [], []⟩,
  ⟨("_law_pick", none), "_law_pick", "_law_pick", defArgs (top 50), defBody (top 50), defScope (top 50), [], []⟩,
  ⟨("_law_rc_backward", none), "_law_rc_backward", "_law_rc_backward", defArgs (top 66), defBody (top 66), defScope (top 66), [], []⟩,
  ⟨("_law_rc_doors", none), "_law_rc_doors", "_law_rc_doors", defArgs (top 55), defBody (top 55), defScope (top 55), [], []⟩,
  ⟨("_law_rc_end", none), "_law_rc_end", "_law_rc_end", defArgs (top 60), defBody (top 60), defScope (top 60), [], []⟩,
  ⟨("_law_rc_from", none), "_law_rc_from", "_law_rc_from", defArgs (top 58), defBody (top 58), defScope (top 58), [], []⟩,
  ⟨("_law_rc_gate", none), "_law_rc_gate", "_law_rc_gate", defArgs (top 57), defBody (top 57), defScope (top 57), [], []⟩,
  ⟨("_law_rc_home", none), "_law_rc_home", "_law_rc_home", defArgs (top 64), defBody (top 64), defScope (top 64), [], []⟩,
  ⟨("_law_rc_joined", none), "_law_rc_joined", "_law_rc_joined", defArgs (top 65), defBody (top 65), defScope (top 65), [], []⟩,
  ⟨("_law_rc_number", none), "_law_rc_number", "_law_rc_number", defArgs (top 54), defBody (top 54), defScope (top 54), [], []⟩,
  ⟨("_law_rc_pulls", none), "_law_rc_pulls", "_law_rc_pulls", defArgs (top 61), defBody (top 61), defScope (top 61), [], []⟩,
  ⟨("_law_rc_road", none), "_law_rc_road", "_law_rc_road", defArgs (top 63), defBody (top 63), defScope (top 63), [], []⟩,
  ⟨("_law_rc_told", none), "_law_rc_told", "_law_rc_told", defArgs (top 56), defBody (top 56), defScope (top 56), [], []⟩,
  ⟨("_law_rc_turned", none), "_law_rc_turned", "_law_rc_turned", defArgs (top 59), defBody (top 59), defScope (top 59), [], []⟩,
  ⟨("_law_rc_walk", none), "_law_rc_walk", "_law_rc_walk", defArgs (top 62), defBody (top 62), defScope (top 62), [], []⟩,
  ⟨("_law_rc_word", none), "_law_rc_word", "_law_rc_word", defArgs (top 67), defBody (top 67), defScope (top 67), [], []⟩,
  ⟨("are_doors", none), "are_doors", "are_doors", defArgs (top 25), defBody (top 25), defScope (top 25), [], []⟩,
  ⟨("are_numbers", none), "are_numbers", "are_numbers", defArgs (top 3), defBody (top 3), defScope (top 3), [], []⟩,
  ⟨("are_steps", none), "are_steps", "are_steps", defArgs (top 34), defBody (top 34), defScope (top 34), [], []⟩,
  ⟨("back", none), "back", "back", defArgs (top 43), defBody (top 43), defScope (top 43), [], []⟩,
  ⟨("back_of", none), "back_of", "back_of", defArgs (top 40), defBody (top 40), defScope (top 40), [], []⟩,
  ⟨("end_for", none), "end_for", "end_for", defArgs (top 37), defBody (top 37), defScope (top 37), [], []⟩,
  ⟨("gate_of", none), "gate_of", "gate_of", defArgs (top 31), defBody (top 31), defScope (top 31), [], []⟩,
  ⟨("is_below", none), "is_below", "is_below", defArgs (top 2), defBody (top 2), defScope (top 2), [], []⟩,
  ⟨("is_door", none), "is_door", "is_door", defArgs (top 24), defBody (top 24), defScope (top 24), [], []⟩,
  ⟨("is_number", none), "is_number", "is_number", defArgs (top 1), defBody (top 1), defScope (top 1), [], []⟩,
  ⟨("is_pass", none), "is_pass", "is_pass", defArgs (top 30), defBody (top 30), defScope (top 30), [], []⟩,
  ⟨("is_walk_of", none), "is_walk_of", "is_walk_of", defArgs (top 35), defBody (top 35), defScope (top 35), [], []⟩,
  ⟨("join_of", none), "join_of", "join_of", defArgs (top 39), defBody (top 39), defScope (top 39), [], []⟩,
  ⟨("joined", none), "joined", "joined", defArgs (top 42), defBody (top 42), defScope (top 42), [], []⟩,
  ⟨("joined_rooms", none), "joined_rooms", "joined_rooms", defArgs (top 26), defBody (top 26), defScope (top 26), [], []⟩,
  ⟨("law", none), "law", "law", defArgs (top 69), defBody (top 69), defScope (top 69), [], []⟩,
  ⟨("need_home", none), "need_home", "need_home", defArgs (top 38), defBody (top 38), defScope (top 38), [], []⟩,
  ⟨("need_house", none), "need_house", "need_house", defArgs (top 28), defBody (top 28), defScope (top 28), [], []⟩,
  ⟨("need_room", none), "need_room", "need_room", defArgs (top 29), defBody (top 29), defScope (top 29), [], []⟩,
  ⟨("need_walk", none), "need_walk", "need_walk", defArgs (top 36), defBody (top 36), defScope (top 36), [], []⟩,
  ⟨("power", none), "power", "power", defArgs (top 45), defBody (top 45), defScope (top 45), [], []⟩,
  ⟨("standing", none), "standing", "standing", defArgs (top 44), defBody (top 44), defScope (top 44), [], []⟩,
  ⟨("standing_in", none), "standing_in", "standing_in", defArgs (top 41), defBody (top 41), defScope (top 41), [], []⟩] : List He.DefD).getD i ⟨("", none), "", "", defArgs (top 0), defBody (top 0), defScope (top 0), [], []⟩
def fn : List He.DefD := ([dd 0, dd 1, dd 2, dd 3, dd 4, dd 5, dd 6, dd 7, dd 8, dd 9, dd 10, dd 11, dd 12, dd 13, dd 14, dd 15, dd 16, dd 17, dd 18, dd 19, dd 20, dd 21, dd 22, dd 23, dd 24, dd 25, dd 26, dd 27, dd 28, dd 29] : List He.DefD) ++ ([dd 30, dd 31, dd 32, dd 33, dd 34, dd 35, dd 36, dd 37, dd 38, dd 39, dd 40, dd 41, dd 42, dd 43, dd 44, dd 45] : List He.DefD)
def fa : List He.Fa := ([.cls "House", .free "abs", .free "all", .free "bool", .free "int", .free "isinstance", .free "len", .free "list", .free "min", .free "range", .free "repr", .free "reversed", .free "tuple", .glo "BadHouse", .glo "BadMove", .glo "BadPass", .glo "BadRoom", .glo "BadSpot", .glo "BadState", .glo "BadTimes", .glo "BadWalk", .glo "Elsewhere", .glo "House", .glo "NotHome", .glo "PullError", .glo "TooMany", .glo "_law_begun", .glo "_law_blended", .glo "_law_caught", .glo "_law_draw"] : List He.Fa) ++ ([.glo "_law_k01_power", .glo "_law_mixed", .glo "_law_odd", .glo "_law_pick", .glo "_law_rc_backward", .glo "_law_rc_doors", .glo "_law_rc_end", .glo "_law_rc_from", .glo "_law_rc_gate", .glo "_law_rc_home", .glo "_law_rc_joined", .glo "_law_rc_number", .glo "_law_rc_pulls", .glo "_law_rc_road", .glo "_law_rc_told", .glo "_law_rc_turned", .glo "_law_rc_walk", .glo "_law_rc_word", .glo "are_doors", .glo "are_numbers", .glo "are_steps", .glo "back", .glo "back_of", .glo "end_for", .glo "gate_of", .glo "is_below", .glo "is_door", .glo "is_number", .glo "is_pass", .glo "is_walk_of"] : List He.Fa) ++ ([.glo "join_of", .glo "joined", .glo "joined_rooms", .glo "law", .glo "need_home", .glo "need_house", .glo "need_room", .glo "need_walk", .glo "power", .glo "standing", .glo "standing_in", .int "GREATEST" 999, .int "MOST_DOORS" 20, .int "MOST_ROOMS" 12, .int "MOST_TIMES" 9, .mkr "House", .noat "House" "doors", .noat "House" "rooms", .exc "BadDoors", .glo "BadDoors", .exc "BadHouse", .exc "BadRoom", .exc "BadRooms", .glo "BadRooms", .exc "BadTimes", .exc "BadWalk", .exc "Elsewhere", .exc "NotHome"] : List He.Fa)
def loose : List PySem.Str := (["is_number", "is_below", "are_numbers", "PullError", "Apart", "BadDoors", "BadHouse", "BadMove", "BadPass", "BadRoom", "BadRooms", "BadSpot", "BadState", "BadTimes", "BadWalk", "Elsewhere", "NotHome", "TooMany", "MOST_ROOMS", "MOST_DOORS", "GREATEST", "is_door", "are_doors", "joined_rooms", "House", "need_house", "need_room", "is_pass", "gate_of", "MOST_TIMES"] : List PySem.Str) ++ (["are_steps", "is_walk_of", "need_walk", "end_for", "need_home", "join_of", "back_of", "standing_in", "joined", "back", "standing", "power", "_law_begun", "_law_blended", "_law_draw", "_law_pick", "_law_mixed", "_law_caught", "_law_odd", "_law_rc_number", "_law_rc_doors", "_law_rc_told", "_law_rc_gate", "_law_rc_from", "_law_rc_turned", "_law_rc_end", "_law_rc_pulls", "_law_rc_walk", "_law_rc_road", "_law_rc_home"] : List PySem.Str) ++ (["_law_rc_joined", "_law_rc_backward", "_law_rc_word", "_law_k01_power"] : List PySem.Str)
def exB (K : PySem.W.Frag) : Bool := (["BadDoors", "BadHouse", "BadMove", "BadPass", "BadRoom", "BadRooms", "BadSpot", "BadState", "BadTimes", "BadWalk", "Elsewhere", "NotHome"] : List String).all (fun n => decide (PySem.W.exmOne K (.ref (ce K n)) (.ref (ce K "PullError")) = some true)) && ((objB K (ce K "House") && (decide (PySem.W.kitOne K (.ref (ce K "House")) (.ref (ce K "House")) = some true) && decide (PySem.W.kitOne K (.type "NoneType") (.ref (ce K "House")) = some false)))
  && EXN.all fun n => excB K (ce K n) && (decide (PySem.W.kitOne K (.ref (ce K n)) (.ref (ce K "TooMany")) = some false) && EXN.all fun m => decide (PySem.W.kitOne K (.ref (ce K n)) (.ref (ce K m)) = some (decide (n = m)))))
abbrev R : PySem.W.OpenRow := PySem.W.OpenLaw.row PySem.Challenge.rw_ropescounted_k01_walks_joined_and_backwa
abbrev hk : PySem.W.Hook := He.hookX 6 fa fn [] [("law", none)] exB
def ob (s : PySem.W.SharedT) : He.AlX := He.obsX 6 fa fn [] [("law", none)] exB (HandSHeadRun.getT s)
theorem ob_eq (s : PySem.W.SharedT) : ob s = hk.obs s.abs := He.obsX_eq (HandSHeadRun.getT_eq s)
theorem run (w : World) : HandSHeadRun.RunEq R (PySem.W.view R.prog [69]) hk ob 60000 loose w := by
  intro os
  kernel_rfl
theorem exB_ok {K : PySem.W.Frag} (h : exB K = true) : (∀ n ∈ (["BadDoors", "BadHouse", "BadMove", "BadPass", "BadRoom", "BadRooms", "BadSpot", "BadState", "BadTimes", "BadWalk", "Elsewhere", "NotHome"] : List String), PySem.W.exmOne K (.ref (ce K n)) (.ref (ce K "PullError")) = some true) ∧ Kx K ∧ Ke K EXN := by
  unfold exB at h
  obtain ⟨h1, h2⟩ := and_inv h
  obtain ⟨h3, h4⟩ := and_inv h2
  obtain ⟨h5, h6⟩ := and_inv h3
  obtain ⟨h7, h8⟩ := and_inv h6
  have h9 := List.all_eq_true.mp h4
  refine ⟨fun n hn => of_decide_eq_true (List.all_eq_true.mp h1 n hn), ⟨h5, of_decide_eq_true h7, of_decide_eq_true h8⟩, ?_⟩
  exact ⟨fun n hn => (and_inv (h9 n hn)).1, fun n hn => of_decide_eq_true (and_inv (and_inv (h9 n hn)).2).1, fun n hn m hm => of_decide_eq_true (List.all_eq_true.mp (and_inv (and_inv (h9 n hn)).2).2 m hm)⟩
theorem cD {w : World} {h : Heap} {K : PySem.W.Frag} (c : He.SaysX fa fn [] [("law", none)] exB w h K) : He.SaysD fa fn K := congrArg (fun z : He.AlT => z.1) c.t
theorem fx {w : World} {h : Heap} {K : PySem.W.Frag} {mg : PySem.Str → Option Value} (X : K.In h) (G : h.Ns mainGlobals mg) (c : He.SaysX fa fn [] [("law", none)] exB w h K) (X1 : ∀ n ∈ (["BadDoors", "BadHouse", "BadMove", "BadPass", "BadRoom", "BadRooms", "BadSpot", "BadState", "BadTimes", "BadWalk", "Elsewhere", "NotHome"] : List String), PySem.W.exmOne K (.ref (ce K n)) (.ref (ce K "PullError")) = some true) : Fx K mg where
  cl_House := He.cls_ok ((cD c).fact 0 (f := .cls "House") rfl)
  d_House := (cD c).def_ 0 (d := dd 0) rfl
  d__law_begun := (cD c).def_ 1 (d := dd 1) rfl
  d__law_blended := (cD c).def_ 2 (d := dd 2) rfl
  d__law_caught := (cD c).def_ 3 (d := dd 3) rfl
  d__law_draw := (cD c).def_ 4 (d := dd 4) rfl
  d__law_k01_power := (cD c).def_ 5 (d := dd 5) rfl
  d__law_mixed := (cD c).def_ 6 (d := dd 6) rfl
  d__law_odd := (cD c).def_ 7 (d := dd 7) rfl
  d__law_pick := (cD c).def_ 8 (d := dd 8) rfl
  d__law_rc_backward := (cD c).def_ 9 (d := dd 9) rfl
  d__law_rc_doors := (cD c).def_ 10 (d := dd 10) rfl
  d__law_rc_end := (cD c).def_ 11 (d := dd 11) rfl
  d__law_rc_from := (cD c).def_ 12 (d := dd 12) rfl
  d__law_rc_gate := (cD c).def_ 13 (d := dd 13) rfl
  d__law_rc_home := (cD c).def_ 14 (d := dd 14) rfl
  d__law_rc_joined := (cD c).def_ 15 (d := dd 15) rfl
  d__law_rc_number := (cD c).def_ 16 (d := dd 16) rfl
  d__law_rc_pulls := (cD c).def_ 17 (d := dd 17) rfl
  d__law_rc_road := (cD c).def_ 18 (d := dd 18) rfl
  d__law_rc_told := (cD c).def_ 19 (d := dd 19) rfl
  d__law_rc_turned := (cD c).def_ 20 (d := dd 20) rfl
  d__law_rc_walk := (cD c).def_ 21 (d := dd 21) rfl
  d__law_rc_word := (cD c).def_ 22 (d := dd 22) rfl
  d_are_doors := (cD c).def_ 23 (d := dd 23) rfl
  d_are_numbers := (cD c).def_ 24 (d := dd 24) rfl
  d_are_steps := (cD c).def_ 25 (d := dd 25) rfl
  d_back := (cD c).def_ 26 (d := dd 26) rfl
  d_back_of := (cD c).def_ 27 (d := dd 27) rfl
  d_end_for := (cD c).def_ 28 (d := dd 28) rfl
  d_gate_of := (cD c).def_ 29 (d := dd 29) rfl
  d_is_below := (cD c).def_ 30 (d := dd 30) rfl
  d_is_door := (cD c).def_ 31 (d := dd 31) rfl
  d_is_number := (cD c).def_ 32 (d := dd 32) rfl
  d_is_pass := (cD c).def_ 33 (d := dd 33) rfl
  d_is_walk_of := (cD c).def_ 34 (d := dd 34) rfl
  d_join_of := (cD c).def_ 35 (d := dd 35) rfl
  d_joined := (cD c).def_ 36 (d := dd 36) rfl
  d_joined_rooms := (cD c).def_ 37 (d := dd 37) rfl
  d_law := (cD c).def_ 38 (d := dd 38) rfl
  d_need_home := (cD c).def_ 39 (d := dd 39) rfl
  d_need_house := (cD c).def_ 40 (d := dd 40) rfl
  d_need_room := (cD c).def_ 41 (d := dd 41) rfl
  d_need_walk := (cD c).def_ 42 (d := dd 42) rfl
  d_power := (cD c).def_ 43 (d := dd 43) rfl
  d_standing := (cD c).def_ 44 (d := dd 44) rfl
  d_standing_in := (cD c).def_ 45 (d := dd 45) rfl
  exm := X1
  fr_abs := He.free_ok X G ((cD c).fact 1 (f := .free "abs") rfl)
  fr_all := He.free_ok X G ((cD c).fact 2 (f := .free "all") rfl)
  fr_bool := He.free_ok X G ((cD c).fact 3 (f := .free "bool") rfl)
  fr_int := He.free_ok X G ((cD c).fact 4 (f := .free "int") rfl)
  fr_isinstance := He.free_ok X G ((cD c).fact 5 (f := .free "isinstance") rfl)
  fr_len := He.free_ok X G ((cD c).fact 6 (f := .free "len") rfl)
  fr_list := He.free_ok X G ((cD c).fact 7 (f := .free "list") rfl)
  fr_min := He.free_ok X G ((cD c).fact 8 (f := .free "min") rfl)
  fr_range := He.free_ok X G ((cD c).fact 9 (f := .free "range") rfl)
  fr_repr := He.free_ok X G ((cD c).fact 10 (f := .free "repr") rfl)
  fr_reversed := He.free_ok X G ((cD c).fact 11 (f := .free "reversed") rfl)
  fr_tuple := He.free_ok X G ((cD c).fact 12 (f := .free "tuple") rfl)
  g_BadHouse := He.glo_ok X G ((cD c).fact 13 (f := .glo "BadHouse") rfl)
  g_BadMove := He.glo_ok X G ((cD c).fact 14 (f := .glo "BadMove") rfl)
  g_BadPass := He.glo_ok X G ((cD c).fact 15 (f := .glo "BadPass") rfl)
  g_BadRoom := He.glo_ok X G ((cD c).fact 16 (f := .glo "BadRoom") rfl)
  g_BadSpot := He.glo_ok X G ((cD c).fact 17 (f := .glo "BadSpot") rfl)
  g_BadState := He.glo_ok X G ((cD c).fact 18 (f := .glo "BadState") rfl)
  g_BadTimes := He.glo_ok X G ((cD c).fact 19 (f := .glo "BadTimes") rfl)
  g_BadWalk := He.glo_ok X G ((cD c).fact 20 (f := .glo "BadWalk") rfl)
  g_Elsewhere := He.glo_ok X G ((cD c).fact 21 (f := .glo "Elsewhere") rfl)
  g_House := He.glo_ok X G ((cD c).fact 22 (f := .glo "House") rfl)
  g_NotHome := He.glo_ok X G ((cD c).fact 23 (f := .glo "NotHome") rfl)
  g_PullError := He.glo_ok X G ((cD c).fact 24 (f := .glo "PullError") rfl)
  g_TooMany := He.glo_ok X G ((cD c).fact 25 (f := .glo "TooMany") rfl)
  g__law_begun := He.glo_ok X G ((cD c).fact 26 (f := .glo "_law_begun") rfl)
  g__law_blended := He.glo_ok X G ((cD c).fact 27 (f := .glo "_law_blended") rfl)
  g__law_caught := He.glo_ok X G ((cD c).fact 28 (f := .glo "_law_caught") rfl)
  g__law_draw := He.glo_ok X G ((cD c).fact 29 (f := .glo "_law_draw") rfl)
  g__law_k01_power := He.glo_ok X G ((cD c).fact 30 (f := .glo "_law_k01_power") rfl)
  g__law_mixed := He.glo_ok X G ((cD c).fact 31 (f := .glo "_law_mixed") rfl)
  g__law_odd := He.glo_ok X G ((cD c).fact 32 (f := .glo "_law_odd") rfl)
  g__law_pick := He.glo_ok X G ((cD c).fact 33 (f := .glo "_law_pick") rfl)
  g__law_rc_backward := He.glo_ok X G ((cD c).fact 34 (f := .glo "_law_rc_backward") rfl)
  g__law_rc_doors := He.glo_ok X G ((cD c).fact 35 (f := .glo "_law_rc_doors") rfl)
  g__law_rc_end := He.glo_ok X G ((cD c).fact 36 (f := .glo "_law_rc_end") rfl)
  g__law_rc_from := He.glo_ok X G ((cD c).fact 37 (f := .glo "_law_rc_from") rfl)
  g__law_rc_gate := He.glo_ok X G ((cD c).fact 38 (f := .glo "_law_rc_gate") rfl)
  g__law_rc_home := He.glo_ok X G ((cD c).fact 39 (f := .glo "_law_rc_home") rfl)
  g__law_rc_joined := He.glo_ok X G ((cD c).fact 40 (f := .glo "_law_rc_joined") rfl)
  g__law_rc_number := He.glo_ok X G ((cD c).fact 41 (f := .glo "_law_rc_number") rfl)
  g__law_rc_pulls := He.glo_ok X G ((cD c).fact 42 (f := .glo "_law_rc_pulls") rfl)
  g__law_rc_road := He.glo_ok X G ((cD c).fact 43 (f := .glo "_law_rc_road") rfl)
  g__law_rc_told := He.glo_ok X G ((cD c).fact 44 (f := .glo "_law_rc_told") rfl)
  g__law_rc_turned := He.glo_ok X G ((cD c).fact 45 (f := .glo "_law_rc_turned") rfl)
  g__law_rc_walk := He.glo_ok X G ((cD c).fact 46 (f := .glo "_law_rc_walk") rfl)
  g__law_rc_word := He.glo_ok X G ((cD c).fact 47 (f := .glo "_law_rc_word") rfl)
  g_are_doors := He.glo_ok X G ((cD c).fact 48 (f := .glo "are_doors") rfl)
  g_are_numbers := He.glo_ok X G ((cD c).fact 49 (f := .glo "are_numbers") rfl)
  g_are_steps := He.glo_ok X G ((cD c).fact 50 (f := .glo "are_steps") rfl)
  g_back := He.glo_ok X G ((cD c).fact 51 (f := .glo "back") rfl)
  g_back_of := He.glo_ok X G ((cD c).fact 52 (f := .glo "back_of") rfl)
  g_end_for := He.glo_ok X G ((cD c).fact 53 (f := .glo "end_for") rfl)
  g_gate_of := He.glo_ok X G ((cD c).fact 54 (f := .glo "gate_of") rfl)
  g_is_below := He.glo_ok X G ((cD c).fact 55 (f := .glo "is_below") rfl)
  g_is_door := He.glo_ok X G ((cD c).fact 56 (f := .glo "is_door") rfl)
  g_is_number := He.glo_ok X G ((cD c).fact 57 (f := .glo "is_number") rfl)
  g_is_pass := He.glo_ok X G ((cD c).fact 58 (f := .glo "is_pass") rfl)
  g_is_walk_of := He.glo_ok X G ((cD c).fact 59 (f := .glo "is_walk_of") rfl)
  g_join_of := He.glo_ok X G ((cD c).fact 60 (f := .glo "join_of") rfl)
  g_joined := He.glo_ok X G ((cD c).fact 61 (f := .glo "joined") rfl)
  g_joined_rooms := He.glo_ok X G ((cD c).fact 62 (f := .glo "joined_rooms") rfl)
  g_law := He.glo_ok X G ((cD c).fact 63 (f := .glo "law") rfl)
  g_need_home := He.glo_ok X G ((cD c).fact 64 (f := .glo "need_home") rfl)
  g_need_house := He.glo_ok X G ((cD c).fact 65 (f := .glo "need_house") rfl)
  g_need_room := He.glo_ok X G ((cD c).fact 66 (f := .glo "need_room") rfl)
  g_need_walk := He.glo_ok X G ((cD c).fact 67 (f := .glo "need_walk") rfl)
  g_power := He.glo_ok X G ((cD c).fact 68 (f := .glo "power") rfl)
  g_standing := He.glo_ok X G ((cD c).fact 69 (f := .glo "standing") rfl)
  g_standing_in := He.glo_ok X G ((cD c).fact 70 (f := .glo "standing_in") rfl)
  i_GREATEST := He.int_ok X G ((cD c).fact 71 (f := .int "GREATEST" 999) rfl)
  i_MOST_DOORS := He.int_ok X G ((cD c).fact 72 (f := .int "MOST_DOORS" 20) rfl)
  i_MOST_ROOMS := He.int_ok X G ((cD c).fact 73 (f := .int "MOST_ROOMS" 12) rfl)
  i_MOST_TIMES := He.int_ok X G ((cD c).fact 74 (f := .int "MOST_TIMES" 9) rfl)
  mk_House := He.mkr_ok ((cD c).fact 75 (f := .mkr "House") rfl)
  na_House_doors := He.noat_ok ((cD c).fact 76 (f := .noat "House" "doors") rfl)
  na_House_rooms := He.noat_ok ((cD c).fact 77 (f := .noat "House" "rooms") rfl)
  x_BadDoors := ⟨He.exc_ok ((cD c).fact 78 (f := .exc "BadDoors") rfl), He.glo_ok X G ((cD c).fact 79 (f := .glo "BadDoors") rfl)⟩
  x_BadHouse := ⟨He.exc_ok ((cD c).fact 80 (f := .exc "BadHouse") rfl), He.glo_ok X G ((cD c).fact 13 (f := .glo "BadHouse") rfl)⟩
  x_BadRoom := ⟨He.exc_ok ((cD c).fact 81 (f := .exc "BadRoom") rfl), He.glo_ok X G ((cD c).fact 16 (f := .glo "BadRoom") rfl)⟩
  x_BadRooms := ⟨He.exc_ok ((cD c).fact 82 (f := .exc "BadRooms") rfl), He.glo_ok X G ((cD c).fact 83 (f := .glo "BadRooms") rfl)⟩
  x_BadTimes := ⟨He.exc_ok ((cD c).fact 84 (f := .exc "BadTimes") rfl), He.glo_ok X G ((cD c).fact 19 (f := .glo "BadTimes") rfl)⟩
  x_BadWalk := ⟨He.exc_ok ((cD c).fact 85 (f := .exc "BadWalk") rfl), He.glo_ok X G ((cD c).fact 20 (f := .glo "BadWalk") rfl)⟩
  x_Elsewhere := ⟨He.exc_ok ((cD c).fact 86 (f := .exc "Elsewhere") rfl), He.glo_ok X G ((cD c).fact 21 (f := .glo "Elsewhere") rfl)⟩
  x_NotHome := ⟨He.exc_ok ((cD c).fact 87 (f := .exc "NotHome") rfl), He.glo_ok X G ((cD c).fact 23 (f := .glo "NotHome") rfl)⟩
theorem facts {w : World} {K : PySem.W.Frag} {h : Heap} {mg : PySem.Str → Option Value} {f : Addr} (X : K.In h) (G : h.Ns mainGlobals mg) (hfa : mg ("law" : PySem.Str) = some (.ref f)) (c : He.SaysX fa fn [] [("law", none)] exB w h K)
    {P : Program} {a : Addr} {ns : List Int} {base : Heap} {H : Hp} {s : Shared} (hn : ns.length ≤ 63) (TB : LamX.TabB base mg (He.cT K ("law", none)).1 (He.cT K ("law", none)).2) (e0 : Env0 P w K mg base callerA [] s H) (hT : H (He.cT K ("law", none)).2 = some (.tbl #[])) (hS : SqL K H a (ns.map V.int)) :
    codeAny (model P w) callerA (.call (.ref f) ⟨[.ref a], []⟩) (CR (L2.CX P w) [] P w H s (fun v _ => v = .bl true) fun _ _ _ => False) s := by
  obtain ⟨X1, X2, X3⟩ := exB_ok c.more
  have W := fx X G c X1
  have e := hfa.symm.trans W.g_law
  cases e
  exact law_run W TB e0 hT hS (by omega) (law_pure X2 X3 hn)
end LK01
open PySem PySem.W PySem.Calls PyProof.Rows
theorem PySem.Challenge.cw_ropescounted_k01_walks_joined_and_backwa_holds : PySem.Challenge.rw_ropescounted_k01_walks_joined_and_backwa.Holds := by
  w_on; o_law
  refine HandSHeadRun.head_any (r := OpenLaw.row PySem.Challenge.rw_ropescounted_k01_walks_joined_and_backwa) (q := view (OpenLaw.row PySem.Challenge.rw_ropescounted_k01_walks_joined_and_backwa).prog [69]) (H := LK01.hk) (ob := LK01.ob) (M := 60000) (loose := LK01.loose) (d := HandSHeadRun.topDef (OpenLaw.row PySem.Challenge.rw_ropescounted_k01_walks_joined_and_backwa).prog 69) (kwd := []) LK01.ob_eq
    (by kernel_rfl) (fun s => by kernel_rfl) LK01.run (by kernel_rfl) (by kernel_rfl) (by kernel_rfl) (by rfl) (by first | assumption | decide +kernel) (by decide +kernel) ⟨rfl, rfl, rfl, rfl, rfl, by decide +kernel⟩ ?hw ?hc
  case hw => w_witness2
  case hc =>
    refine DSE.walk_ofA (l := PySem.Challenge.rw_ropescounted_k01_walks_joined_and_backwa) (n := 63) (CX := fun w => L2.CX (PySem.Challenge.rw_ropescounted_k01_walks_joined_and_backwa).prog w) rfl (by decide) (by kernel_rfl) ?F (fun _ _ _ _ _ z => by obtain ⟨_, _, _, _, _, _, _, _, _, _, _, _, z⟩ := z; exact z)
    intro w mg fa h Y G hmg0
    obtain ⟨K, KX, c⟩ := Y
    have hmg : mg ("law" : PySem.Str) = some (.ref fa) := by
      have e : (HandSHeadRun.topDef (OpenLaw.row PySem.Challenge.rw_ropescounted_k01_walks_joined_and_backwa).prog 69).name = ("law" : PySem.Str) := by kernel_rfl
      rw [← e]
      exact hmg0
    refine ⟨K, [He.cT K ("law", none)], KX, fun p hp => ?_, fun p hp => ?_, fun p hp => ?_, fun a ns base H hl _ hKb hns TB e0 hT hS => ?_⟩
    · cases List.mem_singleton.mp hp
      exact c.empty ("law", none) (by simp)
    · cases List.mem_singleton.mp hp
      exact c.out ("law", none) (by simp)
    · cases List.mem_singleton.mp hp
      exact PySem.W.codeHd_of_K KX (c.hd ("law", none) (by simp))
    · exact LK01.facts KX G hmg c hl (TB _ (List.mem_singleton.mpr rfl)) e0 (hT _ (List.mem_singleton.mpr rfl)) hS
