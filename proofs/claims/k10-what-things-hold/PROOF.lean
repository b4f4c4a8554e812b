import PyProof.Rows.All
import Wide.All
import OpenK.AllK
import Wide.FinOn
import PyProof.EqAt
import PyProof.EqKinds
import PyProof.TupleCall
import HandS.ForMost
import HandS.ForExc
import HandS.TryMany
import HandS.Wide
import HandS.WideBits
import HandS.IsInst
import HandS.CallSlots
import HandS.ClsMeth
import HandS.SortInts
import HandS.EndBits
import PySem.Challenge.RW_heapsafe_k10_what_things_hold
set_option Elab.async false
set_option linter.all false
set_option maxRecDepth 100000
set_option maxHeartbeats 2000000
namespace MP
open PySem L2

/-! ### values, objects, stores -/
inductive D where
  | non | bl (b : Bool) | int (i : Int) | str (x : Str) | tup (xs : List D) | loc (l : Nat)
inductive Cl where
  | Rooms | Thing | Plain | Pair | PlainHeap | Looker | Memory | Marking | Fence | New | Old | Heap | Desk
  deriving DecidableEq
inductive Fl where
  | many | cells | inside | row | last_words | named | made | line | heap | part | to_go | gone | rooms | memory | marking | fence | rows | phase | room
  deriving DecidableEq
def Cl.nm : Cl → Str
  | .Rooms => "Rooms" | .Thing => "Thing" | .Plain => "Plain" | .Pair => "Pair" | .PlainHeap => "PlainHeap" | .Looker => "Looker" | .Memory => "Memory"
  | .Marking => "Marking" | .Fence => "Fence" | .New => "New" | .Old => "Old" | .Heap => "Heap" | .Desk => "Desk"
def Fl.nm : Fl → Str
  | .many => "many" | .cells => "cells" | .inside => "inside" | .row => "row" | .last_words => "last_words" | .named => "named" | .made => "made"
  | .line => "line" | .heap => "heap" | .part => "part" | .to_go => "to_go" | .gone => "gone" | .rooms => "rooms" | .memory => "memory"
  | .marking => "marking" | .fence => "fence" | .rows => "rows" | .phase => "phase" | .room => "room"
/-- an own exception's class -/
inductive Xc where
  | NoDeed | NoLog | NoThing | NoField | NoRoom
  deriving DecidableEq
inductive O where
  | lst (fz : Bool) (xs : List D)
  | dct (fz : Bool) (kvs : List (Key × D))
  | ins (c : Cl) (fs : List (Fl × D))
abbrev Sto := List O
abbrev Rho := List (Option D)
structure Ex where
  c : Xc
  v : Option D
inductive Res (α : Type) where
  | ok (a : α) (S : Sto) | exc (e : Ex) (S : Sto) | stuck
inductive SR where
  | nx (ρ : Rho) (S : Sto) | rt (d : D) (S : Sto) | bk (ρ : Rho) (S : Sto) | ct (ρ : Rho) (S : Sto) | xc (e : Ex) (ρ : Rho) (S : Sto) | stuck
def Res.bind {α β : Type} (r : Res α) (f : α → Sto → Res β) : Res β :=
  match r with
  | .ok a S => f a S
  | .exc e S => .exc e S
  | .stuck => .stuck
@[simp] theorem Res.bind_ok {α β : Type} (a : α) (S : Sto) (f : α → Sto → Res β) : (Res.ok a S).bind f = f a S := rfl
@[simp] theorem Res.bind_exc {α β : Type} (e : Ex) (S : Sto) (f : α → Sto → Res β) : (Res.exc e S).bind f = .exc e S := rfl
@[simp] theorem Res.bind_stuck {α β : Type} (f : α → Sto → Res β) : (Res.stuck : Res α).bind f = .stuck := rfl
abbrev MEx := Rho → Sto → Res D
abbrev MTs := Rho → Sto → Res Bool
abbrev MAr := Rho → Sto → Res (List D)
abbrev MSt := Rho → Sto → SR
abbrev MFn := List D → Sto → Res D
def Res.st {α : Type} (r : Res α) (ρ : Rho) (f : α → Sto → SR) : SR :=
  match r with
  | .ok a S => f a S
  | .exc e S => .xc e ρ S
  | .stuck => .stuck
@[simp] theorem Res.st_ok {α : Type} (a : α) (S : Sto) (ρ : Rho) (f : α → Sto → SR) : (Res.ok a S).st ρ f = f a S := rfl
@[simp] theorem Res.st_exc {α : Type} (e : Ex) (S : Sto) (ρ : Rho) (f : α → Sto → SR) : (Res.exc e S).st ρ f = .xc e ρ S := rfl
@[simp] theorem Res.st_stuck {α : Type} (ρ : Rho) (f : α → Sto → SR) : (Res.stuck : Res α).st ρ f = .stuck := rfl

/-! ### how it lies in the abstract heap -/
/-- where the text's classes lie -/
structure Ga where
  cl : Cl → Addr
  has : Cl → Bool
  xc : Xc → Addr
mutual
inductive RV (K : PySem.W.Frag) (H : Hp) (φ : List Addr) : D → V → Prop
  | non : RV K H φ .non .non
  | bl {b : Bool} : RV K H φ (.bl b) (.bl b)
  | int {i : Int} : RV K H φ (.int i) (.int i)
  | str {x : Str} : RV K H φ (.str x) (.str x)
  | tup {xs : List D} {vs : List V} {a : Addr} : SqT K H a vs → RVs K H φ xs vs → RV K H φ (.tup xs) (.ref a)
  | loc {l : Nat} {a : Addr} : φ[l]? = some a → RV K H φ (.loc l) (.ref a)
inductive RVs (K : PySem.W.Frag) (H : Hp) (φ : List Addr) : List D → List V → Prop
  | nil : RVs K H φ [] []
  | cons {d : D} {v : V} {ds : List D} {vs : List V} : RV K H φ d v → RVs K H φ ds vs → RVs K H φ (d :: ds) (v :: vs)
end
/-- tuples and known things stay -/
structure TK (H H' : Hp) : Prop where
  tup : ∀ a xs, H a = some (.tup xs) → H' a = some (.tup xs)
  frz : ∀ a o u, H a = some (.frz o u) → H' a = some (.frz o u)
theorem TK.refl {H : Hp} : TK H H := ⟨fun _ _ h => h, fun _ _ _ h => h⟩
theorem TK.trans {H H1 H2 : Hp} (a : TK H H1) (b : TK H1 H2) : TK H H2 := ⟨fun c xs h => b.tup c xs (a.tup c xs h), fun c o u h => b.frz c o u (a.frz c o u h)⟩
theorem TK.new {H : Hp} {p : Addr} {o : HO} (h : H p = none) : TK H (upd H p o) :=
  ⟨fun a xs q => by rw [upd_ne (ne_of_none q h)]; exact q, fun a ob u q => by rw [upd_ne (ne_of_none q h)]; exact q⟩
theorem TK.at {H : Hp} {p : Addr} {o u : HO} (h : H p = some u) (h1 : ∀ xs, u ≠ .tup xs) (h2 : ∀ ob w, u ≠ .frz ob w) : TK H (upd H p o) :=
  ⟨fun a xs q => by rw [upd_ne (ne_of q h fun z => h1 _ z.symm)]; exact q, fun a ob w q => by rw [upd_ne (ne_of q h fun z => h2 _ _ z.symm)]; exact q⟩
theorem TK.sqt {K : PySem.W.Frag} {H H' : Hp} {a : Addr} {vs : List V} (t : TK H H') (h : SqT K H a vs) : SqT K H' a vs := by
  rcases h with (h | ⟨o, h⟩) | h
  · exact .inl (.inl (t.tup _ _ h))
  · exact .inl (.inr ⟨o, t.frz _ _ _ h⟩)
  · exact .inr h
theorem pre_get {φ φ' : List Addr} (h : φ <+: φ') {l : Nat} {a : Addr} (e : φ[l]? = some a) : φ'[l]? = some a := by
  obtain ⟨t, rfl⟩ := h
  have hl := (List.getElem?_eq_some_iff.mp e).1
  rw [List.getElem?_append_left hl]
  exact e
section
variable {K : PySem.W.Frag} {H H' : Hp} {φ φ' : List Addr}
mutual
theorem RV.mono {d : D} {v : V} (t : TK H H') (p : φ <+: φ') (h : RV K H φ d v) : RV K H' φ' d v := by
  cases h with
  | non => exact .non
  | bl => exact .bl
  | int => exact .int
  | str => exact .str
  | tup q r => exact .tup (t.sqt q) (RVs.mono t p r)
  | loc e => exact .loc (pre_get p e)
theorem RVs.mono {ds : List D} {vs : List V} (t : TK H H') (p : φ <+: φ') (h : RVs K H φ ds vs) : RVs K H' φ' ds vs := by
  cases h with
  | nil => exact .nil
  | cons a b => exact .cons (RV.mono t p a) (RVs.mono t p b)
end
theorem RVs.length : ∀ {ds : List D} {vs : List V}, RVs K H φ ds vs → ds.length = vs.length
  | _, _, .nil => rfl
  | _, _, .cons _ b => by rw [List.length_cons, List.length_cons, RVs.length b]
theorem RVs.get : ∀ {ds : List D} {vs : List V} {i : Nat} {d : D}, RVs K H φ ds vs → ds[i]? = some d → ∃ v, vs[i]? = some v ∧ RV K H φ d v
  | _, _, _, _, .nil, e => by simp at e
  | _, _, 0, _, .cons a _, e => by simp at e; subst e; exact ⟨_, rfl, a⟩
  | _, _, i + 1, d, .cons _ b, e => by
    obtain ⟨v, h1, h2⟩ := RVs.get (i := i) (d := d) b (by simpa using e)
    exact ⟨v, by simpa using h1, h2⟩
theorem RVs.set {d : D} {v : V} (r : RV K H φ d v) : ∀ {ds : List D} {vs : List V} (i : Nat), RVs K H φ ds vs → RVs K H φ (ds.set i d) (vs.set i v)
  | _, _, _, .nil => .nil
  | _, _, 0, .cons _ b => .cons r b
  | _, _, i + 1, .cons a b => .cons a (RVs.set r i b)
theorem RVs.append : ∀ {ds es : List D} {vs us : List V}, RVs K H φ ds vs → RVs K H φ es us → RVs K H φ (ds ++ es) (vs ++ us)
  | _, _, _, _, .nil, s => s
  | _, _, _, _, .cons a b, s => .cons a (RVs.append b s)
theorem RVs.take : ∀ {ds : List D} {vs : List V} (n : Nat), RVs K H φ ds vs → RVs K H φ (ds.take n) (vs.take n)
  | _, _, 0, _ => .nil
  | _, _, _ + 1, .nil => .nil
  | _, _, n + 1, .cons a b => .cons a (RVs.take n b)
theorem RVs.drop : ∀ {ds : List D} {vs : List V} (n : Nat), RVs K H φ ds vs → RVs K H φ (ds.drop n) (vs.drop n)
  | _, _, 0, r => r
  | _, _, _ + 1, .nil => .nil
  | _, _, n + 1, .cons _ b => RVs.drop n b
theorem RVs.ints : ∀ {ns : List Int}, RVs K H φ (ns.map D.int) (ns.map V.int)
  | [] => .nil
  | _ :: _ => .cons .int RVs.ints
end
/-- pairs of a dict, of an instance -/
inductive RKs (K : PySem.W.Frag) (H : Hp) (φ : List Addr) {κ κ' : Type} (f : κ → κ') : List (κ × D) → List (κ' × V) → Prop
  | nil : RKs K H φ f [] []
  | cons {k : κ} {d : D} {v : V} {ds : List (κ × D)} {vs : List (κ' × V)} : RV K H φ d v → RKs K H φ f ds vs → RKs K H φ f ((k, d) :: ds) ((f k, v) :: vs)
theorem RKs.mono {K : PySem.W.Frag} {H H' : Hp} {φ φ' : List Addr} {κ κ' : Type} {f : κ → κ'} {ds : List (κ × D)} {vs : List (κ' × V)} (t : TK H H') (p : φ <+: φ') (h : RKs K H φ f ds vs) : RKs K H' φ' f ds vs := by
  induction h with
  | nil => exact .nil
  | cons a _ ih => exact .cons (a.mono t p) ih
theorem RKs.length {K : PySem.W.Frag} {H : Hp} {φ : List Addr} {κ κ' : Type} {f : κ → κ'} {ds : List (κ × D)} {vs : List (κ' × V)} (h : RKs K H φ f ds vs) : ds.length = vs.length := by
  induction h with
  | nil => rfl
  | cons _ _ ih => rw [List.length_cons, List.length_cons, ih]
/-- the fields that a class's objects may have -/
def okF : Cl → Fl → Bool
  | .Rooms, .many => true | .Rooms, .cells => true | .Rooms, .inside => true
  | .Thing, .row => true | .Plain, .row => true | .Plain, .last_words => true | .Pair, .row => true
  | .PlainHeap, .named => true | .PlainHeap, .made => true | .PlainHeap, .line => true
  | .Looker, .heap => true | .Looker, .part => true | .Looker, .to_go => true | .Looker, .gone => true
  | .Memory, .rooms => true | .Marking, .memory => true | .Marking, .line => true
  | .Heap, .memory => true | .Heap, .marking => true | .Heap, .fence => true | .Heap, .named => true | .Heap, .line => true | .Heap, .rows => true
  | .Heap, .phase => true | .Heap, .room => true | .Heap, .made => true | .Desk, .heap => true
  | _, _ => false
inductive RO (K : PySem.W.Frag) (G : Ga) (H : Hp) (φ : List Addr) : O → Addr → Prop
  | lst {xs : List D} {vs : List V} {a : Addr} : H a = some (.lst vs) → RVs K H φ xs vs → RO K G H φ (.lst false xs) a
  | lstK {xs : List D} {vs : List V} {a : Addr} : (∃ (o : Obj) (its : Array Value) (n : Nat), K.lookup a = some o ∧ o.cls = .type "list" ∧ o.dict = none ∧ o.data = .seq its n ∧ its.size ≤ sizeLine ∧ Vals vs its.toList) → RVs K H φ xs vs → RO K G H φ (.lst true xs) a
  | lstF {xs : List D} {vs : List V} {a : Addr} {o : Obj} : H a = some (.frz o (.lst vs)) → RVs K H φ xs vs → RO K G H φ (.lst true xs) a
  | dct {kvs : List (Key × D)} {vs : List (Key × V)} {a : Addr} : H a = some (.dK vs) → RKs K H φ id kvs vs → RO K G H φ (.dct false kvs) a
  | dctF {kvs : List (Key × D)} {vs : List (Key × V)} {a : Addr} {o : Obj} : H a = some (.frz o (.dK vs)) → RKs K H φ id kvs vs → RO K G H φ (.dct true kvs) a
  | ins {c : Cl} {fs : List (Fl × D)} {vs : List (Str × V)} {a dx : Addr} : H a = some (.ins (G.cl c) dx vs) → RKs K H φ Fl.nm fs vs → G.has c = true → fs.all (fun f => okF c f.1) = true → RO K G H φ (.ins c fs) a
def fzL : Option O → Bool
  | some (.lst true _) => true
  | _ => false
structure Emb (K : PySem.W.Frag) (G : Ga) (φ : List Addr) (S : Sto) (H : Hp) : Prop where
  len : φ.length = S.length
  nd : ∀ (l l' : Nat) a, φ[l]? = some a → φ[l']? = some a → l = l' ∨ fzL S[l]? = true ∨ fzL S[l']? = true
  ob : ∀ (l : Nat) o a, S[l]? = some o → φ[l]? = some a → RO K G H φ o a
def Ext (φ : List Addr) (H : Hp) (φ' : List Addr) (H' : Hp) : Prop := φ <+: φ' ∧ TK H H'
theorem Ext.refl {φ : List Addr} {H : Hp} : Ext φ H φ H := ⟨List.prefix_rfl, .refl⟩
theorem Ext.trans {φ φ1 φ2 : List Addr} {H H1 H2 : Hp} (a : Ext φ H φ1 H1) (b : Ext φ1 H1 φ2 H2) : Ext φ H φ2 H2 := ⟨a.1.trans b.1, a.2.trans b.2⟩
theorem RV.ext {K : PySem.W.Frag} {φ φ' : List Addr} {H H' : Hp} {d : D} {v : V} (x : Ext φ H φ' H') (h : RV K H φ d v) : RV K H' φ' d v := h.mono x.2 x.1
theorem RVs.ext {K : PySem.W.Frag} {φ φ' : List Addr} {H H' : Hp} {d : List D} {v : List V} (x : Ext φ H φ' H') (h : RVs K H φ d v) : RVs K H' φ' d v := h.mono x.2 x.1
/-- slots -/
structure RS (K : PySem.W.Frag) (φ : List Addr) (ρ : Rho) (σ : St) (H : Hp) : Prop where
  len : ρ.length = σ.length
  at_ : ∀ (i : Nat) d, ρ[i]? = some (some d) → ∃ v, σ[i]? = some (some v) ∧ RV K H φ d v
theorem RS.ext {K : PySem.W.Frag} {φ φ' : List Addr} {ρ : Rho} {σ : St} {H H' : Hp} (x : Ext φ H φ' H') (h : RS K φ ρ σ H) : RS K φ' ρ σ H' :=
  ⟨h.len, fun i d e => let ⟨v, a, b⟩ := h.at_ i d e; ⟨v, a, b.ext x⟩⟩
theorem RS.set {K : PySem.W.Frag} {φ : List Addr} {ρ : Rho} {σ : St} {H : Hp} {d : D} {v : V} (h : RS K φ ρ σ H) (i : Nat) (r : RV K H φ d v) : RS K φ (ρ.set i (some d)) (σ.set i (some v)) H := by
  refine ⟨by simp [h.len], fun j e q => ?_⟩
  by_cases hj : i = j
  · subst hj
    have hl : i < ρ.length := by
      have := (List.getElem?_eq_some_iff.mp q).1
      simpa using this
    rw [List.getElem?_set_self hl] at q
    cases q
    exact ⟨v, List.getElem?_set_self (by rw [← h.len]; exact hl), r⟩
  · rw [List.getElem?_set_ne hj] at q
    rw [List.getElem?_set_ne hj]
    exact h.at_ j e q
/-! ### the wishes -/
def XW (K : PySem.W.Frag) (G : Ga) (W : WX) (e : Ex) (φ : List Addr) (σ : St) (H : Hp) : Prop :=
  match e.v with
  | none => W (.ref (G.xc e.c)) none σ H
  | some x => ∀ d v, H d = some (.xd [(("row" : Str), v)]) → RV K H φ x v → W (.ref (G.xc e.c)) (some d) σ H
def outR {α β : Type} (K : PySem.W.Frag) (G : Ga) (W : WX) (R : Hp → List Addr → α → β → Prop) (r : Res α) (φ : List Addr) (σ : St) (H : Hp) (Q : β → Hp → Prop) : Prop :=
  match r with
  | .ok a S' => ∀ φ' b H', Ext φ H φ' H' → Emb K G φ' S' H' → R H' φ' a b → Q b H'
  | .exc e S' => ∀ φ' H', Ext φ H φ' H' → Emb K G φ' S' H' → XW K G W e φ' σ H'
  | .stuck => False
def outS (K : PySem.W.Frag) (G : Ga) (W : WX) (r : SR) (φ : List Addr) (H : Hp) (D : Ends) : Prop :=
  match r with
  | .nx ρ' S' => ∀ φ' σ' H', Ext φ H φ' H' → Emb K G φ' S' H' → RS K φ' ρ' σ' H' → D.nx σ' H'
  | .rt d S' => ∀ φ' v H', Ext φ H φ' H' → Emb K G φ' S' H' → RV K H' φ' d v → D.rt v H'
  | .bk ρ' S' => ∀ φ' σ' H', Ext φ H φ' H' → Emb K G φ' S' H' → RS K φ' ρ' σ' H' → D.bk σ' H'
  | .ct ρ' S' => ∀ φ' σ' H', Ext φ H φ' H' → Emb K G φ' S' H' → RS K φ' ρ' σ' H' → D.ct σ' H'
  | .xc e ρ' S' => ∀ φ' σ' H', Ext φ H φ' H' → Emb K G φ' S' H' → RS K φ' ρ' σ' H' → XW K G W e φ' σ' H'
  | .stuck => False
def rE (K : PySem.W.Frag) : Hp → List Addr → D → V → Prop := fun H φ d v => RV K H φ d v
def rT : Hp → List Addr → Bool → Bool → Prop := fun _ _ a b => a = b
def rA (K : PySem.W.Frag) : Hp → List Addr → List D → List V → Prop := fun H φ d v => RVs K H φ d v
def wp {α β : Type} (K : PySem.W.Frag) (G : Ga) (W : WX) (R : Hp → List Addr → α → β → Prop) (m : Rho → Sto → Res α) : St → Hp → (β → Hp → Prop) → Prop :=
  fun σ H Q => ∃ φ ρ S, Emb K G φ S H ∧ RS K φ ρ σ H ∧ outR K G W R (m ρ S) φ σ H Q
abbrev wpE (K : PySem.W.Frag) (G : Ga) (W : WX) (m : MEx) : TE := wp K G W (rE K) m
abbrev wpT (K : PySem.W.Frag) (G : Ga) (W : WX) (m : MTs) : TT := wp K G W rT m
abbrev wpA (K : PySem.W.Frag) (G : Ga) (W : WX) (m : MAr) : TA := wp K G W (rA K) m
def wpS (K : PySem.W.Frag) (G : Ga) (W : WX) (m : MSt) : TS := fun D σ H => ∃ φ ρ S, Emb K G φ S H ∧ RS K φ ρ σ H ∧ outS K G W (m ρ S) φ H D
section
variable {K : PySem.W.Frag} {G : Ga} {W : WX} {α β γ δ : Type} {R : Hp → List Addr → α → β → Prop} {R' : Hp → List Addr → γ → δ → Prop}
theorem outR.from {r : Res α} {φ φ1 : List Addr} {σ : St} {H H1 : Hp} {Q : β → Hp → Prop} (x : Ext φ H φ1 H1) (h : outR K G W R r φ σ H Q) : outR K G W R r φ1 σ H1 Q := by
  cases r with
  | ok a S => exact fun φ' b H' x' => h φ' b H' (x.trans x')
  | exc e S => exact fun φ' H' x' => h φ' H' (x.trans x')
  | stuck => exact h
theorem outR.bind {r : Res α} {f : α → Sto → Res γ} {φ : List Addr} {σ : St} {H : Hp} {Q : δ → Hp → Prop} {Q1 : β → Hp → Prop} (h : outR K G W R' (r.bind f) φ σ H Q)
    (k : ∀ a S1 φ1 b H1, Ext φ H φ1 H1 → Emb K G φ1 S1 H1 → R H1 φ1 a b → outR K G W R' (f a S1) φ1 σ H1 Q → Q1 b H1) : outR K G W R r φ σ H Q1 := by
  cases r with
  | ok a S => exact fun φ1 b H1 x em rv => k a S φ1 b H1 x em rv (outR.from x h)
  | exc e S => exact h
  | stuck => exact h
theorem outS.from {r : SR} {φ φ1 : List Addr} {H H1 : Hp} {D : Ends} (x : Ext φ H φ1 H1) (h : outS K G W r φ H D) : outS K G W r φ1 H1 D := by
  cases r with
  | nx ρ S => exact fun φ' b H' x' => h φ' b H' (x.trans x')
  | rt ρ S => exact fun φ' b H' x' => h φ' b H' (x.trans x')
  | bk ρ S => exact fun φ' b H' x' => h φ' b H' (x.trans x')
  | ct ρ S => exact fun φ' b H' x' => h φ' b H' (x.trans x')
  | xc e ρ S => exact fun φ' b H' x' => h φ' b H' (x.trans x')
  | stuck => exact h
theorem outR.st {r : Res α} {f : α → Sto → SR} {φ : List Addr} {ρ : Rho} {σ : St} {H : Hp} {D : Ends} {Q1 : β → Hp → Prop} (rs : RS K φ ρ σ H) (h : outS K G W (r.st ρ f) φ H D)
    (k : ∀ a S1 φ1 b H1, Ext φ H φ1 H1 → Emb K G φ1 S1 H1 → R H1 φ1 a b → outS K G W (f a S1) φ1 H1 D → Q1 b H1) : outR K G W R r φ σ H Q1 := by
  cases r with
  | ok a S => exact fun φ1 b H1 x em rv => k a S φ1 b H1 x em rv (outS.from x h)
  | exc e S => exact fun φ' H' x em => h φ' σ H' x em (rs.ext x)
  | stuck => exact h
theorem outR.ok {a : α} {S : Sto} {φ : List Addr} {σ : St} {H : Hp} {Q : β → Hp → Prop} {b : β} (h : outR K G W R (.ok a S) φ σ H Q) (em : Emb K G φ S H) (r : R H φ a b) : Q b H := h φ b H .refl em r
end

/-! ### the store's turns -/
theorem RO.keep {K : PySem.W.Frag} {G : Ga} {H H' : Hp} {φ φ' : List Addr} {o : O} {a : Addr} (t : TK H H') (p : φ <+: φ') (k : ∀ u, H a = some u → H' a = some u) (h : RO K G H φ o a) : RO K G H' φ' o a := by
  cases h with
  | lst e r => exact .lst (k _ e) (r.mono t p)
  | lstK e r => exact .lstK e (r.mono t p)
  | lstF e r => exact .lstF (k _ e) (r.mono t p)
  | dct e r => exact .dct (k _ e) (r.mono t p)
  | dctF e r => exact .dctF (k _ e) (r.mono t p)
  | ins e r h1 h2 => exact .ins (k _ e) (r.mono t p) h1 h2
theorem RO.there {K : PySem.W.Frag} {G : Ga} {H : Hp} {φ : List Addr} {o : O} {a : Addr} (h : RO K G H φ o a) : (∃ u, H a = some u) ∨ fzL (some o) = true := by
  cases h with
  | lst e r => exact .inl ⟨_, e⟩
  | lstK e r => exact .inr rfl
  | lstF e r => exact .inr rfl
  | dct e r => exact .inl ⟨_, e⟩
  | dctF e r => exact .inl ⟨_, e⟩
  | ins e r h1 h2 => exact .inl ⟨_, e⟩
theorem Emb.addr {K : PySem.W.Frag} {G : Ga} {φ : List Addr} {S : Sto} {H : Hp} (em : Emb K G φ S H) {l : Nat} {o : O} (h : S[l]? = some o) : ∃ a, φ[l]? = some a ∧ RO K G H φ o a := by
  have hl : l < φ.length := by rw [em.len]; exact (List.getElem?_eq_some_iff.mp h).1
  exact ⟨φ[l], List.getElem?_eq_getElem hl, em.ob l o _ h (List.getElem?_eq_getElem hl)⟩
theorem Emb.at_loc {K : PySem.W.Frag} {G : Ga} {φ : List Addr} {S : Sto} {H : Hp} (em : Emb K G φ S H) {l : Nat} {o : O} {v : V} (h : S[l]? = some o) (r : RV K H φ (.loc l) v) : ∃ a, v = .ref a ∧ φ[l]? = some a ∧ RO K G H φ o a := by
  cases r with
  | loc e => exact ⟨_, rfl, e, em.ob l o _ h e⟩
/-- the heap changes elsewhere -/
theorem Emb.keep {K : PySem.W.Frag} {G : Ga} {φ : List Addr} {S : Sto} {H H' : Hp} (em : Emb K G φ S H) (t : TK H H') (k : ∀ a u, H a = some u → H' a = some u) : Emb K G φ S H' :=
  ⟨em.len, em.nd, fun l o a h e => (em.ob l o a h e).keep t List.prefix_rfl (k a)⟩
/-- a tuple is laid -/
theorem Emb.other {K : PySem.W.Frag} {G : Ga} {φ : List Addr} {S : Sto} {H : Hp} {p : Addr} {ho : HO} (em : Emb K G φ S H) (hp : H p = none) : Emb K G φ S (upd H p ho) :=
  em.keep (.new hp) fun a u e => by rw [upd_ne (ne_of_none e hp)]; exact e
/-- an object is laid -/
theorem Emb.new {K : PySem.W.Frag} {G : Ga} {φ : List Addr} {S : Sto} {H : Hp} {p : Addr} {o : O} {ho : HO} (em : Emb K G φ S H) (hp : H p = none) (r : RO K G (upd H p ho) (φ ++ [p]) o p) : Emb K G (φ ++ [p]) (S ++ [o]) (upd H p ho) := by
  have hlen := em.len
  have old : ∀ {l a}, (φ ++ [p])[l]? = some a → l < φ.length → φ[l]? = some a := fun {l a} e h => by rw [List.getElem?_append_left h] at e; exact e
  have last : ∀ {l a}, (φ ++ [p])[l]? = some a → ¬ l < φ.length → l = φ.length ∧ a = p := fun {l a} e h => by
    have h1 : l < (φ ++ [p]).length := (List.getElem?_eq_some_iff.mp e).1
    simp at h1
    have h2 : l = φ.length := by omega
    subst h2
    simp at e
    exact ⟨rfl, e.symm⟩
  have sold : ∀ {l}, l < φ.length → (S ++ [o])[l]? = S[l]? := fun {l} h => by rw [List.getElem?_append_left (by omega)]
  have clash : ∀ {l}, φ[l]? = some p → fzL S[l]? = true := fun {l} e => by
    have hl : l < φ.length := (List.getElem?_eq_some_iff.mp e).1
    have hl2 : l < S.length := by omega
    have q := em.ob l S[l] p (List.getElem?_eq_getElem hl2) e
    rw [List.getElem?_eq_getElem hl2]
    rcases q.there with ⟨u, z⟩ | z
    · rw [hp] at z; cases z
    · exact z
  refine ⟨by simp [hlen], fun l l' a e e' => ?_, fun l o' a h e => ?_⟩
  · by_cases h1 : l < φ.length
    · by_cases h2 : l' < φ.length
      · rw [sold h1, sold h2]
        exact em.nd l l' a (old e h1) (old e' h2)
      · obtain ⟨_, rfl⟩ := last e' h2
        rw [sold h1]
        exact .inr (.inl (clash (old e h1)))
    · obtain ⟨h3, rfl⟩ := last e h1
      by_cases h2 : l' < φ.length
      · rw [sold h2]
        exact .inr (.inr (clash (old e' h2)))
      · exact .inl (h3.trans (last e' h2).1.symm)
  · by_cases h1 : l < φ.length
    · rw [sold h1] at h
      exact (em.ob l o' a h (old e h1)).keep (.new hp) (List.prefix_append _ _) fun u z => by rw [upd_ne (ne_of_none z hp)]; exact z
    · obtain ⟨h3, rfl⟩ := last e h1
      subst h3
      rw [hlen] at h
      simp at h
      subst h
      exact r
theorem Ext.new {φ : List Addr} {H : Hp} {p : Addr} {ho : HO} (hp : H p = none) : Ext φ H (φ ++ [p]) (upd H p ho) := ⟨List.prefix_append _ _, .new hp⟩
theorem Ext.other {φ : List Addr} {H : Hp} {p : Addr} {ho : HO} (hp : H p = none) : Ext φ H φ (upd H p ho) := ⟨List.prefix_rfl, .new hp⟩
/-- an object is written -/
theorem Emb.set {K : PySem.W.Frag} {G : Ga} {φ : List Addr} {S : Sto} {H : Hp} {l : Nat} {a : Addr} {o0 o : O} {u ho : HO} (em : Emb K G φ S H) (h0 : S[l]? = some o0) (ha : φ[l]? = some a) (hu : H a = some u) (h1 : ∀ xs, u ≠ .tup xs) (h2 : ∀ ob w, u ≠ .frz ob w)
    (hf : fzL (some o0) = false) (r : RO K G (upd H a ho) φ o a) : Emb K G φ (S.set l o) (upd H a ho) := by
  have hl : l < S.length := (List.getElem?_eq_some_iff.mp h0).1
  have tk : TK H (upd H a ho) := TK.at hu h1 h2
  refine ⟨by simp [em.len], fun i j b e e' => ?_, fun i o' b h e => ?_⟩
  · have z := em.nd i j b e e'
    rcases z with z | z | z
    · exact .inl z
    · refine .inr (.inl ?_)
      by_cases hi : l = i
      · subst hi; rw [h0, hf] at z; cases z
      · rw [List.getElem?_set_ne hi]; exact z
    · refine .inr (.inr ?_)
      by_cases hi : l = j
      · subst hi; rw [h0, hf] at z; cases z
      · rw [List.getElem?_set_ne hi]; exact z
  · by_cases hi : l = i
    · subst hi
      rw [List.getElem?_set_self hl] at h
      cases h
      rw [ha] at e
      cases e
      exact r
    · rw [List.getElem?_set_ne hi] at h
      have q := em.ob i o' b h e
      by_cases hb : b = a
      · subst hb
        rcases em.nd l i b ha e with z | z | z
        · exact absurd z hi
        · rw [h0, hf] at z; cases z
        · rw [h] at z
          cases q with
          | lst e1 r1 => cases z
          | lstK e1 r1 => exact .lstK e1 (r1.mono tk List.prefix_rfl)
          | lstF e1 r1 => rw [hu] at e1; exact absurd (Option.some.inj e1) (h2 _ _)
          | dct e1 r1 => cases z
          | dctF e1 r1 => cases z
          | ins e1 r1 _ _ => cases z
      · exact q.keep tk List.prefix_rfl fun w z => by rw [upd_ne hb]; exact z
theorem Ext.at {φ : List Addr} {H : Hp} {a : Addr} {u ho : HO} (hu : H a = some u) (h1 : ∀ xs, u ≠ .tup xs) (h2 : ∀ ob w, u ≠ .frz ob w) : Ext φ H φ (upd H a ho) := ⟨List.prefix_rfl, TK.at hu h1 h2⟩
/-- a list as it may be read -/
theorem RO.sql {K : PySem.W.Frag} {G : Ga} {H : Hp} {φ : List Addr} {fz : Bool} {xs : List D} {a : Addr} (h : RO K G H φ (.lst fz xs) a) : ∃ vs, SqL K H a vs ∧ RVs K H φ xs vs := by
  cases h with
  | lst e r => exact ⟨_, .inl (.inl e), r⟩
  | lstK e r => exact ⟨_, .inr e, r⟩
  | lstF e r => exact ⟨_, .inl (.inr ⟨_, e⟩), r⟩
theorem RO.lstM {K : PySem.W.Frag} {G : Ga} {H : Hp} {φ : List Addr} {xs : List D} {a : Addr} (h : RO K G H φ (O.lst false xs) a) : ∃ vs, H a = some (HO.lst vs) ∧ RVs K H φ xs vs := by
  cases h with
  | lst e r => exact ⟨_, e, r⟩
end MP

set_option Elab.async false
set_option linter.all false
set_option maxRecDepth 100000
set_option maxHeartbeats 2000000
namespace MP
open PySem L2
/-- a body's context -/
structure DX (X : Cx) (G : Ga) (W : WX) (k : Nat) : Prop where
  calm : X.calm = true
  tk : Takes X W
  pn : PassesOwn (model X.prog X.w) X.A X.env X.xe
  hr : Room k X.A
  nd : X.N.Nodup
/-- the classes -/
structure Gok (K : PySem.W.Frag) (G : Ga) : Prop where
  cls : ∀ c, G.has c = true → Cls K (G.cl c)
  noat : ∀ c f, G.has c = true → okF c f = true → NoAttr K (G.cl c) f.nm
section
variable {X : Cx} {G : Ga} {W : WX} {k : Nat}
theorem pe_conv {e : Expr} {t t' : TE} (h : PE X e t) (hh : ∀ σ H Q, t' σ H Q → t σ H Q) : PE X e t' := ⟨fun pins s σ H Q I ht => h.run pins s σ H Q I (hh _ _ _ ht)⟩
theorem pt_conv {e : Expr} {t t' : TT} (h : PT X e t) (hh : ∀ σ H Q, t' σ H Q → t σ H Q) : PT X e t' := ⟨fun pins s σ H Q I ht => h.run pins s σ H Q I (hh _ _ _ ht)⟩
theorem pw_conv {e : Expr} {t t' : TT} (h : PW X e t) (hh : ∀ σ H Q, t' σ H Q → t σ H Q) : PW X e t' := ⟨fun wh pins s σ H Q I ht => h.run wh pins s σ H Q I (hh _ _ _ ht)⟩
theorem pa_conv {e : List Expr} {t t' : TA} (h : PA X e t) (hh : ∀ σ H Q, t' σ H Q → t σ H Q) : PA X e t' := ⟨fun pos pins s σ H Q I ht => h.run pos pins s σ H Q I (hh _ _ _ ht)⟩
theorem ps_conv {e : Stmt} {t t' : TS} (h : PS X e t) (hh : ∀ D σ H, t' D σ H → t D σ H) : PS X e t' := ⟨fun pins s σ H D I ht => h.run pins s σ H D I (hh _ _ _ ht)⟩
theorem pss_conv {e : List Stmt} {t t' : TS} (h : PSs X e t) (hh : ∀ D σ H, t' D σ H → t D σ H) : PSs X e t' := ⟨fun pins s σ H D I ht => h.run pins s σ H D I (hh _ _ _ ht)⟩
theorem pg_conv {e : Expr} {t t' : TG} (h : PG X e t) (hh : ∀ v σ H Q, t' v σ H Q → t v σ H Q) : PG X e t' := ⟨fun pins s σ H v u Q I r ht => h.run pins s σ H v u Q I r (hh _ _ _ _ ht)⟩
theorem pi_conv {tg e : Expr} {t t' : TI} (h : PI X tg e t) (hh : ∀ σ H Q, t' σ H Q → t σ H Q) : PI X tg e t' := ⟨fun pins s σ H Q I ht => h.run pins s σ H Q I (hh _ _ _ ht)⟩
theorem pe_or2 {e : Expr} {t t' : TE} (h : PE X e t) (h' : PE X e t') : PE X e (fun σ H Q => t σ H Q ∨ t' σ H Q) := ⟨fun pins s σ H Q I ht => ht.elim (h.run pins s σ H Q I) (h'.run pins s σ H Q I)⟩
theorem ps_or2 {e : Stmt} {t t' : TS} (h : PS X e t) (h' : PS X e t') : PS X e (fun D σ H => t D σ H ∨ t' D σ H) := ⟨fun pins s σ H Q I ht => ht.elim (h.run pins s σ H Q I) (h'.run pins s σ H Q I)⟩
theorem pi_or2 {tg e : Expr} {t t' : TI} (h : PI X tg e t) (h' : PI X tg e t') : PI X tg e (fun σ H Q => t σ H Q ∨ t' σ H Q) := ⟨fun pins s σ H Q I ht => ht.elim (h.run pins s σ H Q I) (h'.run pins s σ H Q I)⟩
theorem pg_or2 {e : Expr} {t t' : TG} (h : PG X e t) (h' : PG X e t') : PG X e (fun v σ H Q => t v σ H Q ∨ t' v σ H Q) := ⟨fun pins s σ H v u Q I r ht => ht.elim (h.run pins s σ H v u Q I r) (h'.run pins s σ H v u Q I r)⟩

/-! ### two ways: the first that is not stuck -/
def mAlt (a b : MEx) : MEx := fun ρ S => match a ρ S with
  | .stuck => b ρ S
  | r => r
theorem d_alt {e : Expr} {a b : MEx} (ha : PE X e (wpE X.K G W a)) (hb : PE X e (wpE X.K G W b)) : PE X e (wpE X.K G W (mAlt a b)) := by
  refine pe_conv (pe_or2 ha hb) ?_
  rintro σ H Q ⟨φ, ρ, S, em, rs, h⟩
  unfold mAlt at h
  cases q : a ρ S with
  | ok d S' => rw [q] at h; exact .inl ⟨φ, ρ, S, em, rs, by rw [q]; exact h⟩
  | exc d S' => rw [q] at h; exact .inl ⟨φ, ρ, S, em, rs, by rw [q]; exact h⟩
  | stuck => rw [q] at h; exact .inr ⟨φ, ρ, S, em, rs, h⟩
def sAlt (a b : MSt) : MSt := fun ρ S => match a ρ S with
  | .stuck => b ρ S
  | r => r
theorem s_alt {e : Stmt} {a b : MSt} (ha : PS X e (wpS X.K G W a)) (hb : PS X e (wpS X.K G W b)) : PS X e (wpS X.K G W (sAlt a b)) := by
  refine ps_conv (ps_or2 ha hb) ?_
  rintro D σ H ⟨φ, ρ, S, em, rs, h⟩
  by_cases q : a ρ S = .stuck
  · have : sAlt a b ρ S = b ρ S := by unfold sAlt; rw [q]
    rw [this] at h
    exact .inr ⟨φ, ρ, S, em, rs, h⟩
  · have : sAlt a b ρ S = a ρ S := by unfold sAlt; cases z : a ρ S <;> first | rfl | exact absurd z q
    rw [this] at h
    exact .inl ⟨φ, ρ, S, em, rs, h⟩

/-! ### names and constants -/
def mVar (i : Nat) : MEx := fun ρ S => match ρ[i]? with
  | some (some d) => .ok d S
  | _ => .stuck
theorem d_var (i : Nat) {x : Str} {pos : Pos} (hN : X.N[i]? = some x := by rfl) (hv : Vis X.env.scope x := by first | exact Or.inl rfl | exact Or.inr (Or.inl rfl) | exact Or.inr (Or.inr rfl)) (hd : (x == ("__debug__" : Str)) = false := by decide)
    (hcd : (x == ("__classdict__" : Str)) = false := by decide) : PE X (.Name x pos) (wpE X.K G W (mVar i)) := by
  refine pe_conv (pe_var hN hv hd hcd) ?_
  rintro σ H Q ⟨φ, ρ, S, em, rs, h⟩
  unfold mVar at h
  split at h
  · rename_i d e
    obtain ⟨v, e1, r⟩ := rs.at_ i d e
    exact ⟨v, e1, outR.ok h em r⟩
  · exact h.elim
def mC (d : D) : MEx := fun _ S => .ok d S
theorem d_const {e : Expr} {v : V} {d : D} (h : PE X e (tC v)) (r : ∀ H φ, RV X.K H φ d v) : PE X e (wpE X.K G W (mC d)) := by
  refine pe_conv h ?_
  rintro σ H Q ⟨φ, ρ, S, em, rs, h⟩
  exact outR.ok (R := rE X.K) h em (r H φ)
theorem d_int {i : Int} {j : Nat} {pos : Pos} : PE X (.Constant (.int i) j pos) (wpE X.K G W (mC (.int i))) := d_const pe_int fun _ _ => .int
theorem d_bl {b : Bool} {j : Nat} {pos : Pos} : PE X (.Constant (.bool b) j pos) (wpE X.K G W (mC (.bl b))) := d_const pe_bl fun _ _ => .bl
theorem d_non {j : Nat} {pos : Pos} : PE X (.Constant .none j pos) (wpE X.K G W (mC .non)) := d_const pe_non fun _ _ => .non
theorem d_str {x : Str} {j : Nat} {pos : Pos} : PE X (.Constant (.str x) j pos) (wpE X.K G W (mC (.str x))) := d_const pe_str fun _ _ => .str
/-- a constant of the module -/
structure GlC (K : PySem.W.Frag) (mg : Str → Option Value) (x : Str) (d : D) : Prop where
  ex : ∃ u v, mg x = some u ∧ RelV v u ∧ ∀ H φ, RV K H φ d v
theorem d_glob {x : Str} {d : D} {pos : Pos} (g : GlC X.K X.mg x d) (hg : Gl X x := by rfl) (hd : (x == ("__debug__" : Str)) = false := by decide) : PE X (.Name x pos) (wpE X.K G W (mC d)) := by
  obtain ⟨u, v, hm, r, q⟩ := g.ex
  exact d_const (pe_glob hg hm r hd) q

/-! ### operators -/
def mOp2 (f : D → D → Sto → Res D) (a b : MEx) : MEx := fun ρ S => (a ρ S).bind fun x S1 => (b ρ S1).bind fun y S2 => f x y S2
def OpS (K : PySem.W.Frag) (G : Ga) (W : WX) (f : D → D → Sto → Res D) (r : R2) : Prop :=
  ∀ φ S σ H d1 d2 v1 v2 Q, Emb K G φ S H → RV K H φ d1 v1 → RV K H φ d2 v2 → outR K G W (rE K) (f d1 d2 S) φ σ H Q → r v1 v2 H Q
theorem op2 {K : PySem.W.Frag} {f : D → D → Sto → Res D} {r : R2} {a b : MEx} (hs : OpS K G W f r) (σ : St) (H : Hp) (Q : VK) (h : wpE K G W (mOp2 f a b) σ H Q) : tOp r (wpE K G W a) (wpE K G W b) σ H Q := by
  obtain ⟨φ, ρ, S, em, rs, h⟩ := h
  refine ⟨φ, ρ, S, em, rs, h.bind fun d1 S1 φ1 v1 H1 x1 em1 rv1 h1 => ?_⟩
  refine ⟨φ1, ρ, S1, em1, rs.ext x1, h1.bind fun d2 S2 φ2 v2 H2 x2 em2 rv2 h2 => ?_⟩
  exact hs φ2 S2 σ H2 d1 d2 v1 v2 Q em2 (RV.ext x2 rv1) rv2 h2
section
variable {a b : Expr} {ma mb : MEx} {pos : Pos} {f : D → D → Sto → Res D} {r : R2}
theorem d_bin {op : Operator} (ho : OpR X (binaryOp op) r) (hs : OpS X.K G W f r) (ha : PE X a (wpE X.K G W ma)) (hb : PE X b (wpE X.K G W mb)) : PE X (.BinOp a op b pos) (wpE X.K G W (mOp2 f ma mb)) :=
  pe_conv (pe_op ho ha hb) (op2 hs)
theorem d_cmp {op : CmpOp} (ho : OpR X (compareOp op) r) (hs : OpS X.K G W f r) (ha : PE X a (wpE X.K G W ma)) (hb : PE X b (wpE X.K G W mb)) (hm : behindInMarks op b = false) : PE X (.Compare a [op] [b] pos) (wpE X.K G W (mOp2 f ma mb)) :=
  pe_conv (pe_cmpR ho ha hb hm) (op2 hs)
end
/-- a value that is a truth -/
def asB (d : D) (S : Sto) : Res Bool := match d with
  | .bl b => .ok b S
  | _ => .stuck
def mTest (m : MEx) : MTs := fun ρ S => (m ρ S).bind asB
theorem test {K : PySem.W.Frag} {m : MEx} {t : TE} (hh : ∀ σ H Q, wpE K G W m σ H Q → t σ H Q) (σ : St) (H : Hp) (Q : Bool → Hp → Prop) (h : wpT K G W (mTest m) σ H Q) : t σ H fun x H' => ∃ c, x = .bl c ∧ Q c H' := by
  obtain ⟨φ, ρ, S, em, rs, h⟩ := h
  refine hh _ _ _ ⟨φ, ρ, S, em, rs, h.bind fun d S1 φ1 v H1 x em1 rv h1 => ?_⟩
  cases rv with
  | @bl b => exact ⟨b, rfl, outR.ok (R := rT) h1 em1 rfl⟩
  | _ => exact h1.elim
section
variable {a b : Expr} {ma mb : MEx} {pos : Pos} {f : D → D → Sto → Res D} {r : R2}
theorem t_cmp {op : CmpOp} (ho : OpR X (compareOp op) r) (hs : OpS X.K G W f r) (ha : PE X a (wpE X.K G W ma)) (hb : PE X b (wpE X.K G W mb)) (hm : behindInMarks op b = false) : PT X (.Compare a [op] [b] pos) (wpT X.K G W (mTest (mOp2 f ma mb))) :=
  pt_conv (pt_cmpR ho ha hb hm) (test (op2 hs))
theorem t_val {e : Expr} {m : MEx} (h : PE X e (wpE X.K G W m)) (he : ∀ whole, isTrue e X.env whole = (do let v ← whole; standAt e.pos; holding [v] (truthy v)) := by intro _; rfl) : PT X e (wpT X.K G W (mTest m)) :=
  pt_conv (pt_val h he) (test fun _ _ _ z => z)
end
def tAnd' (a b : MTs) : MTs := fun ρ S => (a ρ S).bind fun c S1 => if c = true then b ρ S1 else .ok false S1
def tOr' (a b : MTs) : MTs := fun ρ S => (a ρ S).bind fun c S1 => if c = true then .ok true S1 else b ρ S1
def tNot' (a : MTs) : MTs := fun ρ S => (a ρ S).bind fun c S1 => .ok (!c) S1
section
variable {a b : Expr} {rest : List Expr} {ma mb : MTs} {pos : Pos}
theorem t_and1 (ha : PT X a (wpT X.K G W ma)) : PW X (.BoolOp .And [a] pos) (wpT X.K G W ma) := pw_and1 ha
theorem t_or1 (ha : PT X a (wpT X.K G W ma)) : PW X (.BoolOp .Or [a] pos) (wpT X.K G W ma) := pw_or1 ha
theorem t_and (ha : PT X a (wpT X.K G W ma)) (hb : PW X (.BoolOp .And (b :: rest) pos) (wpT X.K G W mb)) : PW X (.BoolOp .And (a :: b :: rest) pos) (wpT X.K G W (tAnd' ma mb)) := by
  refine pw_conv (pw_and ha hb) ?_
  rintro σ H Q ⟨φ, ρ, S, em, rs, h⟩
  refine ⟨φ, ρ, S, em, rs, h.bind fun c S1 φ1 c' H1 x em1 rv h1 => ?_⟩
  cases (show c = c' from rv)
  cases c with
  | true => rw [if_pos rfl] at h1 ⊢; exact ⟨φ1, ρ, S1, em1, rs.ext x, h1⟩
  | false => rw [if_neg Bool.false_ne_true] at h1 ⊢; exact outR.ok (R := rT) h1 em1 rfl
theorem t_or (ha : PT X a (wpT X.K G W ma)) (hb : PW X (.BoolOp .Or (b :: rest) pos) (wpT X.K G W mb)) : PW X (.BoolOp .Or (a :: b :: rest) pos) (wpT X.K G W (tOr' ma mb)) := by
  refine pw_conv (pw_or ha hb) ?_
  rintro σ H Q ⟨φ, ρ, S, em, rs, h⟩
  refine ⟨φ, ρ, S, em, rs, h.bind fun c S1 φ1 c' H1 x em1 rv h1 => ?_⟩
  cases (show c = c' from rv)
  cases c with
  | true => rw [if_pos rfl] at h1 ⊢; exact outR.ok (R := rT) h1 em1 rfl
  | false => rw [if_neg Bool.false_ne_true] at h1 ⊢; exact ⟨φ1, ρ, S1, em1, rs.ext x, h1⟩
theorem t_not (ha : PT X a (wpT X.K G W ma)) : PT X (.UnaryOp .Not a pos) (wpT X.K G W (tNot' ma)) := by
  refine pt_conv (pt_not ha) ?_
  rintro σ H Q ⟨φ, ρ, S, em, rs, h⟩
  refine ⟨φ, ρ, S, em, rs, h.bind fun c S1 φ1 c' H1 x em1 rv h1 => ?_⟩
  cases (show c = c' from rv)
  exact outR.ok (R := rT) h1 em1 rfl
end
/-- and, or, not as values (truths all but the last) -/
def mAnd (a b : MEx) : MEx := fun ρ S => (a ρ S).bind fun d S1 => match d with
  | .bl true => b ρ S1
  | .bl false => .ok (.bl false) S1
  | _ => .stuck
def mOr (a b : MEx) : MEx := fun ρ S => (a ρ S).bind fun d S1 => match d with
  | .bl true => .ok (.bl true) S1
  | .bl false => b ρ S1
  | _ => .stuck
def mNot (a : MEx) : MEx := fun ρ S => (a ρ S).bind fun d S1 => match d with
  | .bl b => .ok (.bl (!b)) S1
  | _ => .stuck
def mIfE (c : MTs) (a b : MEx) : MEx := fun ρ S => (c ρ S).bind fun t S1 => if t = true then a ρ S1 else b ρ S1
section
variable {a b c : Expr} {rest : List Expr} {ma mb : MEx} {mc : MTs} {pos : Pos}
theorem d_one {op : BoolOp} (h : PE X a (wpE X.K G W ma)) : PE X (.BoolOp op [a] pos) (wpE X.K G W ma) := pe_one h
theorem d_and (ha : PE X a (wpE X.K G W ma)) (hb : PE X (.BoolOp .And (b :: rest) pos) (wpE X.K G W mb)) : PE X (.BoolOp .And (a :: b :: rest) pos) (wpE X.K G W (mAnd ma mb)) := by
  refine pe_conv (pe_and ha hb) ?_
  rintro σ H Q ⟨φ, ρ, S, em, rs, h⟩
  refine ⟨φ, ρ, S, em, rs, h.bind fun d S1 φ1 v H1 x em1 rv h1 => ?_⟩
  cases rv with
  | @bl t =>
    refine ⟨t, rfl, ?_⟩
    cases t with
    | true => exact ⟨φ1, ρ, S1, em1, rs.ext x, h1⟩
    | false => exact outR.ok (R := rE X.K) h1 em1 .bl
  | _ => exact h1.elim
theorem d_or (ha : PE X a (wpE X.K G W ma)) (hb : PE X (.BoolOp .Or (b :: rest) pos) (wpE X.K G W mb)) : PE X (.BoolOp .Or (a :: b :: rest) pos) (wpE X.K G W (mOr ma mb)) := by
  refine pe_conv (pe_or ha hb) ?_
  rintro σ H Q ⟨φ, ρ, S, em, rs, h⟩
  refine ⟨φ, ρ, S, em, rs, h.bind fun d S1 φ1 v H1 x em1 rv h1 => ?_⟩
  cases rv with
  | @bl t =>
    refine ⟨t, rfl, ?_⟩
    cases t with
    | true => exact outR.ok (R := rE X.K) h1 em1 .bl
    | false => exact ⟨φ1, ρ, S1, em1, rs.ext x, h1⟩
  | _ => exact h1.elim
theorem d_not (ha : PE X a (wpE X.K G W ma)) : PE X (.UnaryOp .Not a pos) (wpE X.K G W (mNot ma)) := by
  refine pe_conv (pe_not ha) ?_
  rintro σ H Q ⟨φ, ρ, S, em, rs, h⟩
  refine ⟨φ, ρ, S, em, rs, h.bind fun d S1 φ1 v H1 x em1 rv h1 => ?_⟩
  cases rv with
  | @bl t => exact ⟨t, rfl, outR.ok (R := rE X.K) h1 em1 .bl⟩
  | _ => exact h1.elim
theorem d_ife (hc : PT X c (wpT X.K G W mc)) (ha : PE X a (wpE X.K G W ma)) (hb : PE X b (wpE X.K G W mb)) : PE X (.IfExp c a b pos) (wpE X.K G W (mIfE mc ma mb)) := by
  refine pe_conv (pe_ifExp hc ha hb) ?_
  rintro σ H Q ⟨φ, ρ, S, em, rs, h⟩
  refine ⟨φ, ρ, S, em, rs, h.bind fun t S1 φ1 t' H1 x em1 rv h1 => ?_⟩
  cases (show t = t' from rv)
  cases t with
  | true => exact ⟨φ1, ρ, S1, em1, rs.ext x, h1⟩
  | false => exact ⟨φ1, ρ, S1, em1, rs.ext x, h1⟩
end
/-! ### arguments, displays -/
def aNil : MAr := fun _ S => .ok [] S
def aCons (a : MEx) (r : MAr) : MAr := fun ρ S => (a ρ S).bind fun d S1 => (r ρ S1).bind fun ds S2 => .ok (d :: ds) S2
section
variable {e : Expr} {es : List Expr} {m : MEx} {ms : MAr} {pos : Pos}
theorem a_nil : PA X [] (wpA X.K G W aNil) := by
  refine pa_conv pa_nil ?_
  rintro σ H Q ⟨φ, ρ, S, em, rs, h⟩
  exact outR.ok (R := rA X.K) h em .nil
theorem a_cons (ha : PE X e (wpE X.K G W m)) (hr : PA X es (wpA X.K G W ms)) (hs : starEach (e :: es) X.env = (false, eval e X.env) :: starEach es X.env := by rfl) : PA X (e :: es) (wpA X.K G W (aCons m ms)) := by
  refine pa_conv (pa_cons ha hr hs) ?_
  rintro σ H Q ⟨φ, ρ, S, em, rs, h⟩
  refine ⟨φ, ρ, S, em, rs, h.bind fun d S1 φ1 v H1 x em1 rv h1 => ?_⟩
  refine ⟨φ1, ρ, S1, em1, rs.ext x, h1.bind fun ds S2 φ2 vs H2 x2 em2 rvs h2 => ?_⟩
  exact outR.ok (R := rA X.K) h2 em2 (.cons (RV.ext x2 rv) rvs)
def tupD (ds : List D) (S : Sto) : Res D := if ds.length ≤ sizeLine then .ok (.tup ds) S else .stuck
def mTup (ms : MAr) : MEx := fun ρ S => (ms ρ S).bind tupD
theorem d_tup {j : Nat} (h : PA X es (wpA X.K G W ms)) : PE X (.Tuple es j pos) (wpE X.K G W (mTup ms)) := by
  refine pe_conv (pe_tup h) ?_
  rintro σ H Q ⟨φ, ρ, S, em, rs, h⟩
  refine ⟨φ, ρ, S, em, rs, h.bind fun ds S1 φ1 vs H1 x em1 rv h1 => ?_⟩
  unfold tupD at h1
  split at h1
  · rename_i hl
    refine ⟨by rw [← RVs.length rv]; exact hl, fun p hp => ?_⟩
    exact h1 φ1 _ _ (.other hp) (em1.other hp) (.tup (.of upd_same) (RVs.ext (.other hp) rv))
  · exact h1.elim
/-- a new object -/
def newO (o : O) (S : Sto) : Res D := .ok (.loc S.length) (S ++ [o])
def lstD (ds : List D) (S : Sto) : Res D := if ds.length ≤ sizeLine then newO (.lst false ds) S else .stuck
def mLst (ms : MAr) : MEx := fun ρ S => (ms ρ S).bind lstD
theorem outR.newL {K : PySem.W.Frag} {ds : List D} {S : Sto} {φ : List Addr} {σ : St} {H : Hp} {Q : VK} {vs : List V} {p : Addr} (h : outR K G W (rE K) (newO (.lst false ds) S) φ σ H Q) (em : Emb K G φ S H) (rv : RVs K H φ ds vs) (hp : H p = none) :
    Q (.ref p) (upd H p (.lst vs)) := by
  refine h (φ ++ [p]) (.ref p) _ (.new hp) (em.new hp (.lst upd_same (RVs.ext (.new hp) rv))) (.loc ?_)
  rw [← em.len]
  simp
theorem d_lst (h : PA X es (wpA X.K G W ms)) : PE X (.List es pos) (wpE X.K G W (mLst ms)) := by
  refine pe_conv (pe_lst h) ?_
  rintro σ H Q ⟨φ, ρ, S, em, rs, h⟩
  refine ⟨φ, ρ, S, em, rs, h.bind fun ds S1 φ1 vs H1 x em1 rv h1 => ?_⟩
  unfold lstD at h1
  split at h1
  · rename_i hl
    exact ⟨by rw [← RVs.length rv]; exact hl, fun p hp => h1.newL em1 rv hp⟩
  · exact h1.elim
end
/-! ### the operators' meanings -/
def addD (x y : D) (S : Sto) : Res D := match x, y with
  | .int i, .int j => .ok (.int (i + j)) S
  | .str a, .str b => if a.length + b.length ≤ sizeLine then .ok (.str (a ++ b)) S else .stuck
  | .loc l, .loc m => match S[l]?, S[m]? with
    | some (.lst _ xs), some (.lst _ ys) => if xs.length + ys.length ≤ sizeLine then newO (.lst false (xs ++ ys)) S else .stuck
    | _, _ => .stuck
  | .tup xs, .tup ys => if xs ≠ [] ∧ ys ≠ [] ∧ xs.length + ys.length ≤ sizeLine then .ok (.tup (xs ++ ys)) S else .stuck
  | _, _ => .stuck
/-- list + list, also of known ones -/
def rCatQ (K : PySem.W.Frag) : R2 := fun x y H Q => ∃ l b xs zs, x = .ref l ∧ y = .ref b ∧ SqL K H l xs ∧ SqL K H b zs ∧ xs.length + zs.length ≤ sizeLine ∧ ∀ p, H p = none → Q (.ref p) (upd H p (.lst (xs ++ zs)))
end
end MP

set_option Elab.async false
set_option linter.all false
set_option maxRecDepth 100000
set_option maxHeartbeats 2000000
namespace MP
open PySem L2
section
variable {X : Cx} {G : Ga} {W : WX} {k : Nat}
theorem op_catQ : OpR X (binaryOp .Add) (rCatQ X.K) := by
  intro pins s σ H x y v u Q I rx ry h
  obtain ⟨l, b, xs, zs, rfl, rfl, hH, hB, hz, q⟩ := h
  cases rx
  cases ry
  obtain ⟨its, r, pl, hl⟩ := I.list hH
  obtain ⟨its2, r2, pl2, hl2⟩ := I.list hB
  have e1 := r.length
  have e2 := r2.length
  obtain ⟨o, n, ho, hc, hdn, hd⟩ := pl
  obtain ⟨o', n', ho', hc', hdn', hd'⟩ := pl2
  obtain ⟨cls, dd, data, sl⟩ := o
  obtain ⟨cls', dd', data', sl'⟩ := o'
  simp only at hc hd hc' hd' hdn hdn'
  subst hc hd hc' hd' hdn hdn'
  refine PySem.concat_meets ⟨_, ho, rfl⟩ ⟨_, ho', rfl⟩ PySem.noFill_list_add PySem.seq_list_add PySem.F.slot_list_add PySem.F.entry_list_add (PySem.F.args_list_add_2 _ _)
    (PyProof.Rows.list_addW l b its.toArray its2.toArray n n' _ _ sl sl' (by simp; omega)) ⟨ho, ho', ?_⟩
  have ea : its.toArray ++ its2.toArray = (its ++ its2).toArray := by simp
  rw [ea]
  exact ⟨.ref _, _, I.lnew (t' := s.toks) (r.append r2) (by rw [List.length_append]; omega), rfl, q _ I.fresh⟩
def rAddU (K : PySem.W.Frag) : R2 := fun x y H Q => (rI0 (fun i j => .int (i + j))) x y H Q ∨ (∃ i j, x = .str i ∧ y = .str j ∧ i.length + j.length ≤ sizeLine ∧ Q (.str (i ++ j)) H) ∨ rCatQ K x y H Q ∨ rCatT K x y H Q
theorem op_addU : OpR X (binaryOp .Add) (rAddU X.K) := op_add.or (op_add_str.or (op_catQ.or op_catT))
theorem s_add {K : PySem.W.Frag} : OpS K G W addD (rAddU K) := by
  intro φ S σ H d1 d2 v1 v2 Q em r1 r2 h
  unfold addD at h
  split at h
  · cases r1; cases r2
    exact .inl ⟨_, _, rfl, rfl, outR.ok (R := rE K) h em .int⟩
  · cases r1; cases r2
    split at h
    · rename_i hl
      exact .inr (.inl ⟨_, _, rfl, rfl, hl, outR.ok (R := rE K) h em .str⟩)
    · exact h.elim
  · rename_i l m
    split at h
    · rename_i fz xs fz' ys e1 e2
      split at h
      · rename_i hl
        obtain ⟨a, rfl, ha, ro⟩ := em.at_loc e1 r1
        obtain ⟨b, rfl, hb, ro'⟩ := em.at_loc e2 r2
        obtain ⟨vs, hs, rv⟩ := ro.sql
        obtain ⟨vs', hs', rv'⟩ := ro'.sql
        refine .inr (.inr (.inl ⟨a, b, vs, vs', rfl, rfl, hs, hs', by rw [← RVs.length rv, ← RVs.length rv']; exact hl, fun p hp => ?_⟩))
        exact h.newL em (RVs.append rv rv') hp
      · exact h.elim
    · exact h.elim
  · split at h
    · rename_i hl
      cases r1 with
      | tup s1 q1 =>
        cases r2 with
        | tup s2 q2 =>
          have e1 := RVs.length q1
          have e2 := RVs.length q2
          refine .inr (.inr (.inr ⟨_, _, _, _, rfl, rfl, s1, s2, ?_, by rw [← e1, ← e2]; exact hl.2.2, ?_, ?_⟩))
          · intro z
            rw [z] at e1
            exact hl.1 (List.length_eq_zero_iff.mp e1)
          · intro z
            rw [z] at e2
            exact absurd (List.length_eq_zero_iff.mp e2) hl.2.1
          · intro _ p hp
            exact h φ _ _ (.other hp) (em.other hp) (.tup (.of upd_same) (RVs.ext (.other hp) (RVs.append q1 q2)))
    · exact h.elim
  · exact h.elim
/-- int operators -/
def intOp (f : Int → Int → Option Int) : D → D → Sto → Res D := fun x y S => match x, y with
  | .int i, .int j => match f i j with
    | some z => .ok (.int z) S
    | none => .stuck
  | _, _ => .stuck
theorem s_int {K : PySem.W.Frag} {f : Int → Int → Option Int} {C : Int → Int → Prop} {g : Int → Int → Int} (hf : ∀ i j z, f i j = some z → C i j ∧ z = g i j) : OpS K G W (intOp f) (rI C fun i j => .int (g i j)) := by
  intro φ S σ H d1 d2 v1 v2 Q em r1 r2 h
  unfold intOp at h
  split at h
  · cases r1; cases r2
    split at h
    · rename_i z e
      obtain ⟨c, rfl⟩ := hf _ _ _ e
      exact ⟨_, _, rfl, rfl, c, outR.ok (R := rE K) h em .int⟩
    · exact h.elim
  · exact h.elim
theorem s_int0 {K : PySem.W.Frag} {f : Int → Int → Option Int} {g : Int → Int → Int} (hf : ∀ i j z, f i j = some z → z = g i j) : OpS K G W (intOp f) (rI0 fun i j => .int (g i j)) := by
  intro φ S σ H d1 d2 v1 v2 Q em r1 r2 h
  unfold intOp at h
  split at h
  · cases r1; cases r2
    split at h
    · rename_i z e
      have := hf _ _ _ e
      subst this
      exact ⟨_, _, rfl, rfl, outR.ok (R := rE K) h em .int⟩
    · exact h.elim
  · exact h.elim
def subI (i j : Int) : Option Int := some (i - j)
def fdivI (i j : Int) : Option Int := if 0 < j ∧ j.natAbs.log2 < 9000 then some (i / j) else none
def modI (i j : Int) : Option Int := if 0 < j then some (i % j) else none
def powI (i j : Int) : Option Int := if 0 ≤ j ∧ j ≤ 1000000 ∧ i.natAbs < 2 ^ 64 then some (i ^ j.toNat) else none
def shlI (i j : Int) : Option Int := if 0 ≤ j ∧ (Builtin.Int.intBits i : Int) + j ≤ 2 ^ 27 then some (i * 2 ^ j.toNat) else none
def shrI (i j : Int) : Option Int := if 0 ≤ j then some (i / 2 ^ j.toNat) else none
def andI (i j : Int) : Option Int := some (Builtin.bitAnd i j)
def orI (i j : Int) : Option Int := some (Builtin.bitOr i j)
theorem ifs {c : Prop} [Decidable c] {z z' : Int} (h : (if c then some z' else none) = some z) : c ∧ z = z' := by
  split at h
  · rename_i hc; cases h; exact ⟨hc, rfl⟩
  · cases h
theorem s_sub {K : PySem.W.Frag} : OpS K G W (intOp subI) (rI0 fun i j => .int (i - j)) := s_int0 fun _ _ _ e => (Option.some.inj e).symm
theorem s_fdiv {K : PySem.W.Frag} : OpS K G W (intOp fdivI) (rI CDivW fun i j => .int (i / j)) := s_int fun _ _ _ e => by
  first | unfold fdivI at e | unfold modI at e | unfold powI at e | unfold shlI at e | unfold shrI at e
  have q := ifs e
  exact ⟨q.1, q.2⟩
theorem s_mod {K : PySem.W.Frag} : OpS K G W (intOp modI) (rI (fun _ j => 0 < j) fun i j => .int (i % j)) := s_int fun _ _ _ e => by
  first | unfold fdivI at e | unfold modI at e | unfold powI at e | unfold shlI at e | unfold shrI at e
  have q := ifs e
  exact ⟨q.1, q.2⟩
theorem s_pow {K : PySem.W.Frag} : OpS K G W (intOp powI) (rI CPow fun i j => .int (i ^ j.toNat)) := s_int fun _ _ _ e => by
  first | unfold fdivI at e | unfold modI at e | unfold powI at e | unfold shlI at e | unfold shrI at e
  have q := ifs e
  exact ⟨q.1, q.2⟩
theorem s_shl {K : PySem.W.Frag} : OpS K G W (intOp shlI) (rI CShl fun i j => .int (i * 2 ^ j.toNat)) := s_int fun _ _ _ e => by
  first | unfold fdivI at e | unfold modI at e | unfold powI at e | unfold shlI at e | unfold shrI at e
  have q := ifs e
  exact ⟨q.1, q.2⟩
theorem s_shr {K : PySem.W.Frag} : OpS K G W (intOp shrI) (rI (fun _ j => 0 ≤ j) fun i j => .int (i / 2 ^ j.toNat)) := s_int fun _ _ _ e => by
  first | unfold fdivI at e | unfold modI at e | unfold powI at e | unfold shlI at e | unfold shrI at e
  have q := ifs e
  exact ⟨q.1, q.2⟩
theorem s_band {K : PySem.W.Frag} : OpS K G W (intOp andI) (rI0 fun i j => .int (Builtin.bitAnd i j)) := s_int0 fun _ _ _ e => (Option.some.inj e).symm
theorem s_bor {K : PySem.W.Frag} : OpS K G W (intOp orI) (rI0 fun i j => .int (Builtin.bitOr i j)) := s_int0 fun _ _ _ e => (Option.some.inj e).symm
def mulD (x y : D) (S : Sto) : Res D := match x, y with
  | .int i, .int j => if (Builtin.Int.intBits i : Int) + (Builtin.Int.intBits j : Int) ≤ 134217728 then .ok (.int (i * j)) S else .stuck
  | .loc l, .int n => match S[l]? with
    | some (.lst false xs) => if -(2 ^ 63) ≤ n ∧ n < 2 ^ 63 ∧ xs.length * n.toNat ≤ sizeLine then newO (.lst false (List.replicate n.toNat xs).flatten) S else .stuck
    | _ => .stuck
  | _, _ => .stuck
def rMulU : R2 := fun x y H Q => (rI CMulX fun i j => .int (i * j)) x y H Q ∨ rRep x y H Q
theorem op_mulU : OpR X (binaryOp .Mult) rMulU := op_mulX.or op_rep
theorem RVs.rep {K : PySem.W.Frag} {H : Hp} {φ : List Addr} {xs : List D} {vs : List V} (r : RVs K H φ xs vs) : ∀ n : Nat, RVs K H φ (List.replicate n xs).flatten (List.replicate n vs).flatten
  | 0 => .nil
  | n + 1 => by
    rw [List.replicate_succ, List.replicate_succ, List.flatten_cons, List.flatten_cons]
    exact RVs.append r (RVs.rep r n)
theorem s_mul {K : PySem.W.Frag} : OpS K G W mulD rMulU := by
  intro φ S σ H d1 d2 v1 v2 Q em r1 r2 h
  unfold mulD at h
  split at h
  · cases r1; cases r2
    split at h
    · rename_i hl
      exact .inl ⟨_, _, rfl, rfl, hl, outR.ok (R := rE K) h em .int⟩
    · exact h.elim
  · split at h
    · rename_i xs e1
      split at h
      · rename_i hl
        obtain ⟨a, rfl, ha, ro⟩ := em.at_loc e1 r1
        obtain ⟨vs, hs, rv⟩ := ro.lstM
        cases r2
        refine .inr ⟨a, _, vs, rfl, rfl, hs, hl.1, hl.2.1, by rw [← RVs.length rv]; exact hl.2.2, fun p hp => ?_⟩
        exact h.newL em (RVs.rep rv _) hp
      · exact h.elim
    · exact h.elim
  · exact h.elim
/-! ### comparisons -/
def cmpI (p : Int → Int → Bool) : D → D → Sto → Res D := fun x y S => match x, y with
  | .int i, .int j => .ok (.bl (p i j)) S
  | _, _ => .stuck
theorem s_cmpI {K : PySem.W.Frag} {p : Int → Int → Bool} : OpS K G W (cmpI p) (rI0 fun i j => .bl (p i j)) := by
  intro φ S σ H d1 d2 v1 v2 Q em r1 r2 h
  unfold cmpI at h
  split at h
  · cases r1; cases r2
    exact ⟨_, _, rfl, rfl, outR.ok (R := rE K) h em .bl⟩
  · exact h.elim
def ltI (i j : Int) : Bool := decide (i < j)
def leI (i j : Int) : Bool := decide (i ≤ j)
def gtI (i j : Int) : Bool := decide (j < i)
def geI (i j : Int) : Bool := decide (j ≤ i)
def D.isN : D → Bool
  | .non => true
  | _ => false
theorem RV.isN {K : PySem.W.Frag} {H : Hp} {φ : List Addr} {d : D} {v : V} (r : RV K H φ d v) : decide (v = .non) = d.isN := by
  cases r <;> first | rfl | exact decide_eq_false (fun z => nomatch z)
def isD (x y : D) (S : Sto) : Res D := match y with
  | .non => .ok (.bl x.isN) S
  | _ => .stuck
def isNotD (x y : D) (S : Sto) : Res D := match y with
  | .non => .ok (.bl (!x.isN)) S
  | _ => .stuck
theorem s_is {K : PySem.W.Frag} : OpS K G W isD (fun x y H Q => y = .non ∧ Q (.bl (decide (x = .non))) H) := by
  intro φ S σ H d1 d2 v1 v2 Q em r1 r2 h
  unfold isD at h
  split at h
  · cases r2
    exact ⟨rfl, by rw [r1.isN]; exact outR.ok (R := rE K) h em .bl⟩
  · exact h.elim
theorem s_isNot {K : PySem.W.Frag} : OpS K G W isNotD (fun x y H Q => y = .non ∧ Q (.bl (!decide (x = .non))) H) := by
  intro φ S σ H d1 d2 v1 v2 Q em r1 r2 h
  unfold isNotD at h
  split at h
  · cases r2
    exact ⟨rfl, by rw [r1.isN]; exact outR.ok (R := rE K) h em .bl⟩
  · exact h.elim
/-- plain data as the library's == reads it -/
def D.scalar : D → Bool
  | .non => true | .bl _ => true | .int _ => true | .str _ => true | _ => false
def optAll {α β : Type} (f : α → Option β) : List α → Option (List β)
  | [] => some []
  | x :: xs => match f x, optAll f xs with
    | some y, some ys => some (y :: ys)
    | _, _ => none
def pd (S : Sto) : Nat → D → Option PyData
  | _, .non => some .none
  | _, .bl b => some (.bool b)
  | _, .int i => some (.int i)
  | _, .str x => some (.str x)
  | 0, .tup _ => none
  | 0, .loc _ => none
  | n + 1, .tup xs => (optAll (pd S n) xs).map .tuple
  | n + 1, .loc l => match S[l]? with
    | some (.lst _ xs) => (optAll (pd S n) xs).map .list
    | _ => none
theorem dp_all {K : PySem.W.Frag} {H : Hp} {φ : List Addr} {f : D → Option PyData} (ih : ∀ d v p, RV K H φ d v → f d = some p → Dp K H v p) : ∀ {ds : List D} {vs : List V} {ps : List PyData}, RVs K H φ ds vs → optAll f ds = some ps → DpAll K H vs ps
  | _, _, _, .nil, e => by cases e; exact .nil
  | _, _, _, .cons (d := d) (ds := ds) a b, e => by
    unfold optAll at e
    split at e
    · rename_i y ys e1 e2
      cases e
      exact .cons (ih _ _ _ a e1) (dp_all ih b e2)
    · cases e
theorem pd_dp {K : PySem.W.Frag} {φ : List Addr} {S : Sto} {H : Hp} (em : Emb K G φ S H) : ∀ (n : Nat) (d : D) (v : V) (p : PyData), RV K H φ d v → pd S n d = some p → Dp K H v p := by
  intro n
  induction n with
  | zero =>
    intro d v p r e
    cases r with
    | non => unfold pd at e; cases e; exact .non
    | bl => unfold pd at e; cases e; exact .bl _
    | int => unfold pd at e; cases e; exact .int _
    | str => unfold pd at e; cases e; exact .str _
    | tup s q => unfold pd at e; cases e
    | loc q => unfold pd at e; cases e
  | succ n ih =>
    intro d v p r e
    cases r with
    | non => unfold pd at e; cases e; exact .non
    | bl => unfold pd at e; cases e; exact .bl _
    | int => unfold pd at e; cases e; exact .int _
    | str => unfold pd at e; cases e; exact .str _
    | tup s q =>
      unfold pd at e
      obtain ⟨ps, e1, rfl⟩ := Option.map_eq_some_iff.mp e
      exact .tup s (dp_all ih q e1)
    | loc q =>
      unfold pd at e
      split at e
      · rename_i fz xs es
        obtain ⟨ps, e1, rfl⟩ := Option.map_eq_some_iff.mp e
        obtain ⟨vs, sq, rv⟩ := (em.ob _ _ _ es q).sql
        exact .lst sq (dp_all ih rv e1)
      · cases e
def deepEq (S : Sto) (x y : D) : Option Bool := match pd S 8 x, pd S 8 y with
  | some p, some q => if SeqAt.shaped p = true ∧ SeqAt.shaped q = true then some (PyData.eqv p q) else none
  | _, _ => none
def eqD (S : Sto) (x y : D) : Option Bool := match x, y with
  | .int i, .int j => some (decide (i = j))
  | .str a, .str b => some (decide (a = b))
  | .bl a, .bl b => some (decide (a = b))
  | .non, .non => some true
  | .non, .int _ => some false
  | .int _, .non => some false
  | .non, .str _ => some false
  | .str _, .non => some false
  | .non, .bl _ => some false
  | .bl _, .non => some false
  | .int _, .str _ => some false
  | .str _, .int _ => some false
  | .bl _, .str _ => some false
  | .str _, .bl _ => some false
  | x, y => deepEq S x y
theorem eqD_ok {K : PySem.W.Frag} {φ : List Addr} {S : Sto} {H : Hp} (em : Emb K G φ S H) {x y : D} {v u : V} {b : Bool} (r1 : RV K H φ x v) (r2 : RV K H φ y u) (h : eqD S x y = some b) :
    (scal v u = true ∧ decide (v = u) = b) ∨ ∃ p q, Dp K H v p ∧ Dp K H u q ∧ SeqAt.shaped p = true ∧ SeqAt.shaped q = true ∧ PyData.eqv p q = b := by
  have deep : deepEq S x y = some b → ∃ p q, Dp K H v p ∧ Dp K H u q ∧ SeqAt.shaped p = true ∧ SeqAt.shaped q = true ∧ PyData.eqv p q = b := by
    intro h
    unfold deepEq at h
    split at h
    · rename_i p q e1 e2
      split at h
      · rename_i hs
        cases h
        exact ⟨p, q, pd_dp em 8 x v p r1 e1, pd_dp em 8 y u q r2 e2, hs.1, hs.2, rfl⟩
      · cases h
    · cases h
  unfold eqD at h
  split at h
  · cases r1; cases r2; cases h; exact .inl ⟨rfl, decide_eq_decide.mpr ⟨fun z => V.int.inj z, fun z => by rw [z]⟩⟩
  · cases r1; cases r2; cases h; exact .inl ⟨rfl, decide_eq_decide.mpr ⟨fun z => V.str.inj z, fun z => by rw [z]⟩⟩
  · cases r1; cases r2; cases h; exact .inl ⟨rfl, decide_eq_decide.mpr ⟨fun z => V.bl.inj z, fun z => by rw [z]⟩⟩
  · cases r1; cases r2; cases h; exact .inl ⟨rfl, rfl⟩
  all_goals first
    | (cases r1; cases r2; cases h; exact .inl ⟨rfl, decide_eq_false (fun z => nomatch z)⟩)
    | exact .inr (deep h)
def eqR (x y : D) (S : Sto) : Res D := match eqD S x y with
  | some b => .ok (.bl b) S
  | none => .stuck
def neR (x y : D) (S : Sto) : Res D := match eqD S x y with
  | some b => .ok (.bl (!b)) S
  | none => .stuck
def rEqU (K : PySem.W.Frag) : R2 := fun x y H Q => rEq x y H Q ∨ rEqD K x y H Q
def rNeU (K : PySem.W.Frag) : R2 := fun x y H Q => rNe x y H Q ∨ rNeD K x y H Q
theorem op_eqU (d : DX X G W k) : OpR X (compareOp .Eq) (rEqU X.K) := op_eq.or (op_eqD d.hr.units)
theorem op_neU (d : DX X G W k) : OpR X (compareOp .NotEq) (rNeU X.K) := op_ne.or (op_neD d.hr.units)
theorem s_eq {K : PySem.W.Frag} : OpS K G W eqR (rEqU K) := by
  intro φ S σ H d1 d2 v1 v2 Q em r1 r2 h
  unfold eqR at h
  split at h
  · rename_i b e
    have q := outR.ok (R := rE K) h em .bl
    rcases eqD_ok em r1 r2 e with ⟨h1, h2⟩ | ⟨p, q', h1, h2, h3, h4, h5⟩
    · exact .inl ⟨h1, by rw [h2]; exact q⟩
    · exact .inr ⟨p, q', h1, h2, h3, h4, by rw [h5]; exact q⟩
  · exact h.elim
theorem s_ne {K : PySem.W.Frag} : OpS K G W neR (rNeU K) := by
  intro φ S σ H d1 d2 v1 v2 Q em r1 r2 h
  unfold neR at h
  split at h
  · rename_i b e
    have q := outR.ok (R := rE K) h em .bl
    rcases eqD_ok em r1 r2 e with ⟨h1, h2⟩ | ⟨p, q', h1, h2, h3, h4, h5⟩
    · exact .inl ⟨h1, by rw [h2]; exact q⟩
    · exact .inr ⟨p, q', h1, h2, h3, h4, by rw [h5]; exact q⟩
  · exact h.elim
/-! ### is it in: flat things in a list or a tuple -/
def flatD : D → Bool
  | .non => true | .bl _ => true | .int _ => true | .str _ => true | _ => false
/-- list, tuple: the items -/
def items (S : Sto) (d : D) : Option (List D) := match d with
  | .tup xs => some xs
  | .loc l => match S[l]? with
    | some (.lst _ xs) => some xs
    | _ => none
  | _ => none
theorem items_ok {K : PySem.W.Frag} {φ : List Addr} {S : Sto} {H : Hp} (em : Emb K G φ S H) {d : D} {v : V} {xs : List D} (r : RV K H φ d v) (h : items S d = some xs) : ∃ p vs, v = .ref p ∧ (SqL K H p vs ∨ SqT K H p vs) ∧ RVs K H φ xs vs := by
  unfold items at h
  split at h
  · cases r with
    | tup s q => cases h; exact ⟨_, _, rfl, .inr s, q⟩
  · split at h
    · rename_i fz ys e
      cases h
      obtain ⟨a, rfl, _, ro⟩ := em.at_loc e r
      obtain ⟨vs, sq, rv⟩ := ro.sql
      exact ⟨_, _, rfl, .inl sq, rv⟩
    · cases h
  · cases h
def eqFlat : D → D → Bool
  | .non, .non => true
  | .bl a, .bl b => a == b
  | .bl a, .int b => (if a then 1 else 0) == b
  | .int a, .bl b => a == (if b then 1 else 0)
  | .int a, .int b => a == b
  | .str a, .str b => a == b
  | _, _ => false
theorem flat_ok {K : PySem.W.Frag} {H : Hp} {φ : List Addr} {d : D} {v : V} (r : RV K H φ d v) (f : flatD d = true) : flatV v = true := by
  cases r <;> first | rfl | exact absurd (show false = true from f) Bool.false_ne_true
theorem flat_all {K : PySem.W.Frag} {H : Hp} {φ : List Addr} : ∀ {ds : List D} {vs : List V}, RVs K H φ ds vs → ds.all flatD = true → vs.all flatV = true
  | _, _, .nil, _ => rfl
  | _, _, .cons a b, f => by
    rw [List.all_cons, Bool.and_eq_true] at f ⊢
    exact ⟨flat_ok a f.1, flat_all b f.2⟩
theorem eqFlat_ok {K : PySem.W.Frag} {H : Hp} {φ : List Addr} {d e : D} {v u : V} (r : RV K H φ d v) (q : RV K H φ e u) (f : flatD d = true) (g : flatD e = true) : eqV v u = eqFlat d e := by
  cases r <;> cases q <;> first | rfl | exact absurd (show false = true from f) Bool.false_ne_true | exact absurd (show false = true from g) Bool.false_ne_true
def inFlat (x : D) (xs : List D) : Bool := xs.any fun y => eqFlat y x
theorem inFlat_ok {K : PySem.W.Frag} {H : Hp} {φ : List Addr} {x : D} {v : V} (r : RV K H φ x v) (f : flatD x = true) : ∀ {ds : List D} {vs : List V}, RVs K H φ ds vs → ds.all flatD = true → inV v vs = inFlat x ds
  | _, _, .nil, _ => rfl
  | _, _, .cons a b, g => by
    rw [List.all_cons, Bool.and_eq_true] at g
    have ih := inFlat_ok r f b g.2
    unfold inV at ih ⊢
    unfold inFlat at ih ⊢
    rw [List.any_cons, List.any_cons, ih, eqFlat_ok a r g.1 f]
end
end MP

set_option Elab.async false
set_option linter.all false
set_option maxRecDepth 100000
set_option maxHeartbeats 2000000
namespace MP
open PySem L2
section
variable {X : Cx} {G : Ga} {W : WX} {k : Nat}
/-! ### in -/
def inQ (neg : Bool) (x y : D) (S : Sto) : Res D := match items S y with
  | some ys => if flatD x = true ∧ ys.all flatD = true then .ok (.bl (if neg then !inFlat x ys else inFlat x ys)) S else .stuck
  | none => .stuck
theorem s_inQ {K : PySem.W.Frag} {neg : Bool} : OpS K G W (inQ neg) (rIn K neg) := by
  intro φ S σ H d1 d2 v1 v2 Q em r1 r2 h
  unfold inQ at h
  split at h
  · rename_i ys e
    split at h
    · rename_i hf
      obtain ⟨p, vs, rfl, hs, rv⟩ := items_ok em r2 e
      refine ⟨p, vs, rfl, hs, flat_ok r1 hf.1, flat_all rv hf.2, ?_⟩
      rw [inFlat_ok r1 hf.1 rv hf.2]
      exact outR.ok (R := rE K) h em .bl
    · exact h.elim
  · exact h.elim
/-! ### fields -/
def getF (f : Fl) (d : D) (S : Sto) : Res D := match d with
  | .loc l => match S[l]? with
    | some (.ins _ fs) => match fs.lookup f with
      | some x => .ok x S
      | none => .stuck
    | _ => .stuck
  | _ => .stuck
def mFld (f : Fl) (m : MEx) : MEx := fun ρ S => (m ρ S).bind (getF f)
def Fl.un (s : Str) : Option Fl :=
  if s = "many" then some .many else if s = "cells" then some .cells else if s = "inside" then some .inside else if s = "row" then some .row else if s = "last_words" then some .last_words
  else if s = "named" then some .named else if s = "made" then some .made else if s = "line" then some .line else if s = "heap" then some .heap else if s = "part" then some .part
  else if s = "to_go" then some .to_go else if s = "gone" then some .gone else if s = "rooms" then some .rooms else if s = "memory" then some .memory else if s = "marking" then some .marking
  else if s = "fence" then some .fence else if s = "rows" then some .rows else if s = "phase" then some .phase else if s = "room" then some .room else none
theorem Fl.un_nm (f : Fl) : Fl.un f.nm = some f := by cases f <;> decide +kernel
theorem Fl.nm_inj {f g : Fl} (h : f.nm = g.nm) : f = g := by
  have e := congrArg Fl.un h
  rw [Fl.un_nm, Fl.un_nm] at e
  exact Option.some.inj e
theorem RKs.look {K : PySem.W.Frag} {H : Hp} {φ : List Addr} {fs : List (Fl × D)} {vs : List (Str × V)} (r : RKs K H φ Fl.nm fs vs) {f : Fl} {d : D} (h : fs.lookup f = some d) : ∃ v, vs.lookup f.nm = some v ∧ RV K H φ d v := by
  induction r with
  | nil => cases h
  | @cons g e v ds ws a b ih =>
    by_cases hg : f = g
    · subst hg
      rw [List.lookup_cons_self] at h
      cases h
      exact ⟨v, List.lookup_cons_self, a⟩
    · have h1 : (f == g) = false := by simpa using hg
      have h2 : (f.nm == g.nm) = false := by
        cases q : (f.nm == g.nm) with
        | false => rfl
        | true => exact absurd (Fl.nm_inj (eq_of_beq q)) hg
      rw [List.lookup_cons, h1] at h
      obtain ⟨v', e1, r1⟩ := ih h
      exact ⟨v', by rw [List.lookup_cons, h2]; exact e1, r1⟩
theorem RKs.nolook {K : PySem.W.Frag} {H : Hp} {φ : List Addr} {fs : List (Fl × D)} {vs : List (Str × V)} (r : RKs K H φ Fl.nm fs vs) {m : Str} (h : ∀ f d, (f, d) ∈ fs → f.nm ≠ m) : vs.lookup m = none := by
  induction r with
  | nil => rfl
  | @cons g e v ds ws a b ih =>
    have h2 : (m == g.nm) = false := by
      cases q : (m == g.nm) with
      | false => rfl
      | true => exact absurd (eq_of_beq q).symm (h g e List.mem_cons_self)
    rw [List.lookup_cons, h2]
    exact ih fun f d hm => h f d (List.mem_cons_of_mem _ hm)
theorem Fl.look_mem {f : Fl} {d : D} : ∀ {fs : List (Fl × D)}, fs.lookup f = some d → (f, d) ∈ fs
  | [], h => by cases h
  | (g, e) :: fs, h => by
    by_cases hg : f = g
    · subst hg; rw [List.lookup_cons_self] at h; cases h; exact List.mem_cons_self
    · rw [List.lookup_cons, show (f == g) = false by simpa using hg] at h
      exact List.mem_cons_of_mem _ (Fl.look_mem h)
theorem d_fld {e : Expr} {m : MEx} {pos : Pos} {nm : Str} (f : Fl) (g : Gok X.K G) (he : PE X e (wpE X.K G W m)) (hf : f.nm = nm := by rfl) (hb : attributeBase e nm X.env (eval e X.env) = eval e X.env := by rfl) : PE X (.Attribute e nm pos) (wpE X.K G W (mFld f m)) := by
  subst hf
  refine pe_conv (pe_fld he hb) ?_
  rintro σ H Q ⟨φ, ρ, S, em, rs, h⟩
  refine ⟨φ, ρ, S, em, rs, h.bind fun d S1 φ1 v H1 x em1 rv h1 => ?_⟩
  unfold getF at h1
  split at h1
  · split at h1
    · rename_i l c fs es
      split at h1
      · rename_i y ey
        obtain ⟨a, rfl, ha, ro⟩ := em1.at_loc es rv
        cases ro with
        | ins e1 rk hh hall =>
          obtain ⟨w, ew, rw'⟩ := rk.look ey
          have hok : okF c f = true := List.all_eq_true.mp hall _ (Fl.look_mem ey)
          exact ⟨a, _, _, _, w, rfl, e1, g.cls c hh, g.noat c f hh hok, ew, outR.ok (R := rE X.K) h1 em1 rw'⟩
      · exact h1.elim
    · exact h1.elim
  · exact h1.elim
def putFl (f : Fl) (d : D) : List (Fl × D) → List (Fl × D)
  | [] => [(f, d)]
  | (g, e) :: r => if g = f then (g, d) :: r else (g, e) :: putFl f d r
theorem RKs.put {K : PySem.W.Frag} {H : Hp} {φ : List Addr} {fs : List (Fl × D)} {vs : List (Str × V)} (r : RKs K H φ Fl.nm fs vs) {f : Fl} {d : D} {v : V} (q : RV K H φ d v) : RKs K H φ Fl.nm (putFl f d fs) (putF f.nm v vs) := by
  induction r with
  | nil => exact .cons q .nil
  | @cons g e w ds ws a b ih =>
    unfold putFl putF
    by_cases hg : g = f
    · subst hg
      rw [if_pos rfl, if_pos rfl]
      exact .cons q b
    · rw [if_neg hg, if_neg (fun z => hg (Fl.nm_inj z))]
      exact .cons a ih
theorem putFl_all {c : Cl} {f : Fl} {d : D} (hf : okF c f = true) : ∀ {fs : List (Fl × D)}, fs.all (fun f => okF c f.1) = true → (putFl f d fs).all (fun f => okF c f.1) = true
  | [], _ => by unfold putFl; simp [hf]
  | (g, e) :: r, h => by
    rw [List.all_cons, Bool.and_eq_true] at h
    unfold putFl
    by_cases hg : g = f
    · rw [if_pos hg, List.all_cons, Bool.and_eq_true]; exact h
    · rw [if_neg hg, List.all_cons, Bool.and_eq_true]; exact ⟨h.1, putFl_all hf h.2⟩
def setF (f : Fl) (o v : D) (S : Sto) : Option Sto := match o with
  | .loc l => match S[l]? with
    | some (.ins c fs) => if okF c f = true ∧ fs.length < 1000 then some (S.set l (.ins c (putFl f v fs))) else none
    | _ => none
  | _ => none
def nxO (ρ : Rho) : Option Sto → SR
  | some S => .nx ρ S
  | none => .stuck
def sFldS (f : Fl) (mo mv : MEx) : MSt := fun ρ S => (mv ρ S).st ρ fun v S1 => (mo ρ S1).st ρ fun o S2 => nxO ρ (setF f o v S2)
theorem s_fld {o value : Expr} {pos pos' : Pos} {nm : Str} {mo mv : MEx} (f : Fl) (g : Gok X.K G) (ho : PE X o (wpE X.K G W mo)) (hv : PE X value (wpE X.K G W mv)) (hf : f.nm = nm := by rfl)
    (hs : swapsWith value (some (.Attribute o nm pos')) pos.line X.env = pure false := by rfl) : PS X (.Assign [.Attribute o nm pos'] value pos) (wpS X.K G W (sFldS f mo mv)) := by
  subst hf
  refine ps_conv (ps_fld ho hv hs) ?_
  rintro E σ H ⟨φ, ρ, S, em, rs, h⟩
  refine ⟨φ, ρ, S, em, rs, outR.st rs h fun v S1 φ1 y H1 x em1 rv h1 => ?_⟩
  refine ⟨φ1, ρ, S1, em1, rs.ext x, outR.st (rs.ext x) h1 fun o' S2 φ2 y2 H2 x2 em2 rv2 h2 => ?_⟩
  unfold setF at h2
  split at h2
  · split at h2
    · rename_i l c fs es
      split at h2
      · rename_i hc
        obtain ⟨a, rfl, ha, ro⟩ := em2.at_loc es rv2
        cases ro with
        | @ins _ _ ws _ dx e1 rk hh hall =>
          refine ⟨a, _, _, _, rfl, e1, g.cls c hh, g.noat c f hh hc.1, by rw [← rk.length]; exact hc.2, ?_⟩
          have n1 : ∀ xs, HO.ins (G.cl c) dx ws ≠ .tup xs := fun _ z => nomatch z
          have n2 : ∀ ob w, HO.ins (G.cl c) dx ws ≠ .frz ob w := fun _ _ z => nomatch z
          have xa : Ext φ2 H2 φ2 (upd H2 a (.ins (G.cl c) dx (putF f.nm y ws))) := .at e1 n1 n2
          have em3 := em2.set (o := .ins c (putFl f v fs)) (ho := .ins (G.cl c) dx (putF f.nm y ws)) es ha e1 n1 n2 rfl (.ins upd_same (rk.put (RV.ext x2 rv) |>.mono xa.2 List.prefix_rfl) hh (putFl_all hc.1 hall))
          exact h2 φ2 _ _ xa em3 ((rs.ext x).ext (x2.trans xa))
      · exact h2.elim
    · exact h2.elim
  · exact h2.elim
/-! ### o[i] -/
def getI (o i : D) (S : Sto) : Res D := match o, i with
  | .tup xs, .int j => match atI xs j with
    | some x => .ok x S
    | none => .stuck
  | .str z, .int j => if z.length ≤ sizeLine then match atI z.cps.toList j with
    | some c => .ok (.str ⟨#[c]⟩) S
    | none => .stuck
    else .stuck
  | .loc l, .int j => match S[l]? with
    | some (.lst _ xs) => match atI xs j with
      | some x => .ok x S
      | none => .stuck
    | _ => .stuck
  | _, _ => .stuck
theorem RVs.atI {K : PySem.W.Frag} {H : Hp} {φ : List Addr} {xs : List D} {vs : List V} (r : RVs K H φ xs vs) {j : Int} {d : D} (h : L2.atI xs j = some d) : ∃ v, L2.atI vs j = some v ∧ RV K H φ d v := by
  unfold L2.atI at h ⊢
  rw [← RVs.length r]
  obtain ⟨i, e1, e2⟩ := Option.bind_eq_some_iff.mp h
  obtain ⟨v, e3, r3⟩ := RVs.get r e2
  exact ⟨v, by rw [e1]; exact e3, r3⟩
theorem s_getI {K : PySem.W.Frag} : OpS K G W getI (rIx K) := by
  intro φ S σ H d1 d2 v1 v2 Q em r1 r2 h
  unfold getI at h
  split at h
  · split at h
    · rename_i x e
      cases r2
      cases r1 with
      | tup s q =>
        obtain ⟨v, ev, rv⟩ := RVs.atI q e
        exact .inr (.inl ⟨_, _, _, v, rfl, rfl, s, ev, outR.ok (R := rE K) h em rv⟩)
    · exact h.elim
  · split at h
    · rename_i hl
      split at h
      · rename_i c e
        cases r1; cases r2
        exact .inr (.inr ⟨_, _, c, rfl, rfl, hl, e, outR.ok (R := rE K) h em .str⟩)
      · exact h.elim
    · exact h.elim
  · split at h
    · rename_i fz xs es
      split at h
      · rename_i x e
        cases r2
        obtain ⟨a, rfl, ha, ro⟩ := em.at_loc es r1
        obtain ⟨vs, sq, rvs⟩ := ro.sql
        obtain ⟨v, ev, rv⟩ := RVs.atI rvs e
        exact .inl ⟨_, _, _, v, rfl, rfl, sq, ev, outR.ok (R := rE K) h em rv⟩
      · exact h.elim
    · exact h.elim
  · exact h.elim
theorem d_ix {a b : Expr} {ma mb : MEx} {pos : Pos} (ha : PE X a (wpE X.K G W ma)) (hb : PE X b (wpE X.K G W mb)) (hs : PlainIx b := by exact fun _ _ => rfl) : PE X (.Subscript a b pos) (wpE X.K G W (mOp2 getI ma mb)) :=
  pe_conv (pe_ix ix_seq ha hb hs) (op2 s_getI)
/-- o[i] = v, a list -/
def setI (o i v : D) (S : Sto) : Option Sto := match o, i with
  | .loc l, .int j => match S[l]? with
    | some (.lst false xs) => match ixN xs.length j with
      | some n => some (S.set l (.lst false (xs.set n v)))
      | none => none
    | _ => none
  | _, _ => none
def sSetL (mo mi mv : MEx) : MSt := fun ρ S => (mv ρ S).st ρ fun v S1 => (mo ρ S1).st ρ fun o S2 => (mi ρ S2).st ρ fun i S3 => nxO ρ (setI o i v S3)
theorem s_setL {o i value : Expr} {mo mi mv : MEx} {pos pos' : Pos} (ho : PE X o (wpE X.K G W mo)) (hi : PE X i (wpE X.K G W mi)) (hv : PE X value (wpE X.K G W mv))
    (ha : ∀ v, assign (.Subscript o i pos') X.env v = (do
      let ov ← holding [v] (eval o X.env)
      let iv ← holding [v, ov] (eval i X.env)
      standAt pos'
      holding [v, ov, iv] (setItem ov iv v)
      release [v, ov, iv] []) := by intro _; rfl)
    (hs : swapsWithSole [.Subscript o i pos'] value pos.line X.env = pure false := by rfl) (hw : swappedStores [.Subscript o i pos'] value X.env = pure none := by rfl)
    (h1 : (assignEach [.Subscript o i pos'] X.env).map (·.2) = [assign (.Subscript o i pos') X.env] := by rfl) : PS X (.Assign [.Subscript o i pos'] value pos) (wpS X.K G W (sSetL mo mi mv)) := by
  refine ps_conv (ps_asg hv (pg_sub ho hi set_list ha) hs hw h1) ?_
  rintro E σ H ⟨φ, ρ, S, em, rs, h⟩
  refine ⟨φ, ρ, S, em, rs, outR.st rs h fun v S1 φ1 y H1 x em1 rv h1 => ?_⟩
  refine ⟨φ1, ρ, S1, em1, rs.ext x, outR.st (rs.ext x) h1 fun o' S2 φ2 y2 H2 x2 em2 rv2 h2 => ?_⟩
  refine ⟨φ2, ρ, S2, em2, (rs.ext x).ext x2, outR.st ((rs.ext x).ext x2) h2 fun i' S3 φ3 y3 H3 x3 em3 rv3 h3 => ?_⟩
  unfold setI at h3
  split at h3
  · split at h3
    · rename_i l j xs es
      split at h3
      · rename_i n en
        obtain ⟨a, rfl, ha, ro⟩ := em3.at_loc es (RV.ext x3 rv2)
        obtain ⟨vs, e1, rvs⟩ := ro.lstM
        cases rv3
        refine ⟨a, vs, _, n, rfl, rfl, e1, by rw [← RVs.length rvs]; exact en, ?_⟩
        have n1 : ∀ xs, HO.lst vs ≠ .tup xs := fun _ z => nomatch z
        have n2 : ∀ ob w, HO.lst vs ≠ .frz ob w := fun _ _ z => nomatch z
        have xa : Ext φ3 H3 φ3 (upd H3 a (.lst (vs.set n y))) := .at e1 n1 n2
        have em4 := em3.set (o := .lst false (xs.set n v)) (ho := .lst (vs.set n y)) es ha e1 n1 n2 rfl (.lst upd_same (RVs.ext xa (RVs.set (RV.ext (x2.trans x3) rv) n rvs)))
        exact h3 φ3 _ _ xa em4 (((rs.ext x).ext x2).ext (x3.trans xa))
      · exact h3.elim
    · exact h3.elim
  · exact h3.elim
/-! ### slices -/
def optI (d : D) (S : Sto) : Res (Option Int) := match d with
  | .int i => .ok (some i) S
  | _ => .stuck
abbrev MPt := Rho → Sto → Res (Option Int)
def ptNone : MPt := fun _ S => .ok none S
def ptSome (m : MEx) : MPt := fun ρ S => (m ρ S).bind optI
def rO : Hp → List Addr → Option Int → Option Int → Prop := fun _ _ a b => a = b
theorem po_conv {e : Option Expr} {t t' : TO} (h : PO X e t) (hh : ∀ σ H Q, t' σ H Q → t σ H Q) : PO X e t' := ⟨fun pins s σ H Q I ht => h.run pins s σ H Q I (hh _ _ _ ht)⟩
theorem p_none : PO X none (wp X.K G W rO ptNone) := po_conv po_none fun σ H Q ⟨φ, ρ, S, em, rs, h⟩ => outR.ok (R := rO) h em rfl
theorem p_some {e : Expr} {m : MEx} (h : PE X e (wpE X.K G W m)) : PO X (some e) (wp X.K G W rO (ptSome m)) := by
  refine po_conv (po_some h) ?_
  rintro σ H Q ⟨φ, ρ, S, em, rs, h⟩
  refine ⟨φ, ρ, S, em, rs, h.bind fun d S1 φ1 v H1 x em1 rv h1 => ?_⟩
  cases rv with
  | int => exact ⟨_, rfl, outR.ok (R := rO) h1 em1 rfl⟩
  | _ => exact h1.elim
def cutD (xs : List D) (lo hi : Option Int) : List D := (xs.drop (HT.sIx xs.length 0 lo)).take (HT.sIx xs.length xs.length hi - HT.sIx xs.length 0 lo)
def slD (o : D) (lo hi : Option Int) (S : Sto) : Res D := match o with
  | .loc l => match S[l]? with
    | some (.lst _ xs) => newO (.lst false (cutD xs lo hi)) S
    | _ => .stuck
  | .tup xs => .ok (.tup (cutD xs lo hi)) S
  | .str z => if z.length ≤ sizeLine then .ok (.str (cutS z lo hi)) S else .stuck
  | _ => .stuck
def mSl (mo : MEx) (ml mh : MPt) : MEx := fun ρ S => (mo ρ S).bind fun o S1 => (ml ρ S1).bind fun lo S2 => (mh ρ S2).bind fun hi S3 => slD o lo hi S3
end
end MP

set_option Elab.async false
set_option linter.all false
set_option maxRecDepth 100000
set_option maxHeartbeats 2000000
namespace MP
open PySem L2
section
variable {X : Cx} {G : Ga} {W : WX} {k : Nat}
def slD' (o : D) (lo hi : Option Int) (S : Sto) : Res D := match o with
  | .loc l => match S[l]? with
    | some (.lst _ xs) => newO (.lst false (cutD xs lo hi)) S
    | _ => .stuck
  | .tup xs => if HT.sIx xs.length 0 lo = 0 ∧ HT.sIx xs.length xs.length hi = xs.length then .stuck else .ok (.tup (cutD xs lo hi)) S
  | .str z => if z.length ≤ sizeLine then .ok (.str (cutS z lo hi)) S else .stuck
  | _ => .stuck
def mSl' (mo : MEx) (ml mh : MPt) : MEx := fun ρ S => (mo ρ S).bind fun o S1 => (ml ρ S1).bind fun lo S2 => (mh ρ S2).bind fun hi S3 => slD' o lo hi S3
theorem RVs.cut {K : PySem.W.Frag} {H : Hp} {φ : List Addr} {xs : List D} {vs : List V} (r : RVs K H φ xs vs) (lo hi : Option Int) : RVs K H φ (cutD xs lo hi) (cutV vs lo hi) := by
  unfold cutD cutV
  rw [← RVs.length r]
  exact RVs.take _ (RVs.drop _ r)
theorem d_sl {e : Expr} {lo hi : Option Expr} {m : MEx} {ml mh : MPt} {p2 pos : Pos} (he : PE X e (wpE X.K G W m)) (hl : PO X lo (wp X.K G W rO ml)) (hh : PO X hi (wp X.K G W rO mh)) : PE X (.Subscript e (.Slice lo hi none p2) pos) (wpE X.K G W (mSl' m ml mh)) := by
  refine pe_conv (pe_slice (sl_list.or (sl_tup.or sl_str)) he hl hh) ?_
  rintro σ H Q ⟨φ, ρ, S, em, rs, h⟩
  refine ⟨φ, ρ, S, em, rs, h.bind fun o S1 φ1 v H1 x em1 rv h1 => ?_⟩
  refine ⟨φ1, ρ, S1, em1, rs.ext x, h1.bind fun l S2 φ2 l' H2 x2 em2 rl h2 => ?_⟩
  refine ⟨φ2, ρ, S2, em2, (rs.ext x).ext x2, h2.bind fun u S3 φ3 u' H3 x3 em3 ru h3 => ?_⟩
  cases (show l = l' from rl)
  cases (show u = u' from ru)
  have rv3 := RV.ext (x2.trans x3) rv
  unfold slD' at h3
  split at h3
  · split at h3
    · rename_i l2 fz xs es
      obtain ⟨a, rfl, ha, ro⟩ := em3.at_loc es rv3
      obtain ⟨vs, sq, rvs⟩ := ro.sql
      exact .inl ⟨a, vs, rfl, sq, fun p hp => h3.newL em3 (RVs.cut rvs l u) hp⟩
    · exact h3.elim
  · split at h3
    · exact h3.elim
    · rename_i hn
      cases rv3 with
      | tup s q =>
        refine .inr (.inl ⟨_, _, rfl, s, by rw [← RVs.length q]; exact hn, fun p hp => ?_⟩)
        exact h3 φ3 _ _ (.other hp) (em3.other hp) (.tup (.of upd_same) (RVs.ext (.other hp) (RVs.cut q l u)))
  · split at h3
    · rename_i hl
      cases rv3
      exact .inr (.inr ⟨_, rfl, hl, outR.ok (R := rE X.K) h3 em3 .str⟩)
    · exact h3.elim
  · exact h3.elim

/-! ### what a def promises -/
def SpM (K : PySem.W.Frag) (G : Ga) (mf : MFn) (n : Nat) : Sp := fun vs H Q E => ∃ φ S ds, Emb K G φ S H ∧ RVs K H φ ds vs ∧ ds.length = n ∧ outR K G (fun c d _ H => E c d H) (rE K) (mf ds S) φ [] H Q
theorem SpM.len {K : PySem.W.Frag} {mf : MFn} {n : Nat} {vs : List V} {H : Hp} {Q : VK} {E : XK} (h : SpM K G mf n vs H Q E) : vs.length = n := by
  obtain ⟨φ, S, ds, em, rv, hl, _⟩ := h
  rw [← RVs.length rv]
  exact hl
theorem outR.resig {K : PySem.W.Frag} {W' : WX} {r : Res D} {φ : List Addr} {σ σ' : St} {H : Hp} {Q : VK} (hw : ∀ c d H, W c d σ H → W' c d σ' H) (h : outR K G W (rE K) r φ σ H Q) : outR K G W' (rE K) r φ σ' H Q := by
  cases r with
  | ok a S => exact h
  | exc e S =>
    intro φ' H' x em
    have q := h φ' H' x em
    unfold XW at q ⊢
    cases hv : e.v with
    | none => rw [hv] at q; exact hw _ _ _ q
    | some y => rw [hv] at q; exact fun d v h1 h2 => hw _ _ _ (q d v h1 h2)
  | stuck => exact h
/-- the body's end as a def's -/
def SR.fn : SR → Res D
  | .nx _ S => .ok .non S
  | .rt d S => .ok d S
  | .xc e _ S => .exc e S
  | _ => .stuck
def fnB (N : Nat) (body : MSt) : MFn := fun ds S => (body (ds.map some ++ List.replicate (N - ds.length) none) S).fn
theorem rs_start {K : PySem.W.Frag} {φ : List Addr} {H : Hp} {N : List Str} {ds : List D} {vs : List V} (r : RVs K H φ ds vs) : RS K φ (ds.map some ++ List.replicate (N.length - ds.length) none) (L2.start N vs) H := by
  have hl := RVs.length r
  unfold L2.start
  refine ⟨by simp [hl], fun i d e => ?_⟩
  by_cases hi : i < ds.length
  · rw [List.getElem?_append_left (by simpa using hi), List.getElem?_map] at e
    obtain ⟨d', e1, e2⟩ := Option.map_eq_some_iff.mp e
    cases e2
    obtain ⟨v, e3, r3⟩ := RVs.get r e1
    exact ⟨v, by rw [List.getElem?_append_left (by rw [List.length_map, ← hl]; exact hi), List.getElem?_map, e3]; rfl, r3⟩
  · rw [List.getElem?_append_right (by simpa using hi), List.getElem?_replicate] at e
    split at e
    · cases e
    · cases e
section
variable {P : Program} {w : World} {K : PySem.W.Frag} {mg : Str → Option Value} {base : Heap}
/-- THE RULE for a def -/
theorem mk_fn {x qual : Str} {st : Stmt} {f : Addr} {fd : FuncData} {N ps : List Str} {k : Nat} {m : MSt} (F : Fun K x qual st f fd) (S : FnScope N ps (defScope st))
    (hbody : ∀ (cdv : Value) (A : Around) (outer : List Env) (s : Shared) (H : Hp) (E : XK),
      DX (cxOf (L2.CX P w) P w K mg base N qual (defScope st) f cdv A outer s H E) G (fun c d _ H => E c d H) k →
      PSs (cxOf (L2.CX P w) P w K mg base N qual (defScope st) f cdv A outer s H E) (defBody st) (wpS K G (fun c d _ H => E c d H) m)) :
    FnOk P w K mg base (L2.CX P w) (k + 1) f fd ps (SpM K G (fnB N.length m) ps.length) := by
  refine F.okX S (fun vs H Q E h => h.len) fun cdv A outer s H vs Q E hr h => ?_
  refine ⟨_, hbody cdv A outer s H E ⟨rfl, takes_of rfl rfl rfl rfl, passes_of rfl, hr, S.nd⟩, ?_⟩
  obtain ⟨φ, S0, ds, em, rv, hl, h⟩ := h
  refine ⟨φ, _, S0, em, rs_start rv, ?_⟩
  unfold fnB at h
  cases q : m (ds.map some ++ List.replicate (N.length - ds.length) none) S0 with
  | nx ρ S' => rw [q] at h; exact fun φ' σ' H' x em' rs' => h φ' .non H' x em' .non
  | rt d S' => rw [q] at h; exact fun φ' v H' x em' rv' => h φ' v H' x em' rv'
  | bk ρ S' => rw [q] at h; exact h.elim
  | ct ρ S' => rw [q] at h; exact h.elim
  | xc e ρ S' =>
    rw [q] at h
    intro φ' σ' H' x em' rs'
    have z := h φ' H' x em'
    unfold XW at z ⊢
    cases hv : e.v with
    | none => rw [hv] at z; exact z
    | some y => rw [hv] at z; exact z
  | stuck => rw [q] at h; exact h.elim
end
/-- a def that is called by its name -/
structure FnG (P : Program) (w : World) (K : PySem.W.Frag) (mg : Str → Option Value) (base : Heap) (G : Ga) (k : Nat) (x : Str) (mf : MFn) (n : Nat) : Prop where
  ex : ∃ f fd ps, FnOk P w K mg base (L2.CX P w) k f fd ps (SpM K G mf n) ∧ mg x = some (.ref f) ∧ PySem.W.keepIn K (.ref f) = true ∧ Binds K fd ps []
/-- a method -/
structure FnC (P : Program) (w : World) (K : PySem.W.Frag) (mg : Str → Option Value) (base : Heap) (G : Ga) (k : Nat) (c : Cl) (m : Str) (mf : MFn) (n : Nat) : Prop where
  ex : ∃ f fd ps, FnOk P w K mg base (L2.CX P w) k f fd ps (SpM K G mf n) ∧ Meth K (G.cl c) m f ∧ Binds K fd ps [] ∧ G.has c = true
/-- a class that is called -/
structure FnM (P : Program) (w : World) (K : PySem.W.Frag) (mg : Str → Option Value) (base : Heap) (G : Ga) (k : Nat) (c : Cl) (mf : MFn) (n : Nat) : Prop where
  ex : ∃ f fd ps, FnOk P w K mg base (L2.CX P w) k f fd ps (SpM K G mf n) ∧ Mk K (G.cl c) f ∧ mg c.nm = some (.ref (G.cl c)) ∧ Binds K fd ps [] ∧ G.has c = true
def mCall (n : Nat) (mf : MFn) (ms : MAr) : MEx := fun ρ S => (ms ρ S).bind fun ds S1 => if ds.length = n then mf ds S1 else .stuck
theorem d_call {x : Str} {e : Expr} {es : List Expr} {j n : Nat} {mf : MFn} {ms : MAr} {p pos : Pos} (F : FnG X.prog X.w X.K X.mg X.base G j x mf n) (d : DX X G W k) (ha : PA X (e :: es) (wpA X.K G W ms)) (hj : j ≤ k := by decide) (hg : Gl X x := by rfl) (hdb : (x == ("__debug__" : Str)) = false := by decide)
    (he : starEach (e :: es) X.env = (false, eval e X.env) :: starEach es X.env := by rfl) (hpl : (backTo pos (starEach es X.env)).any (·.1) = false := by rfl) : PE X (.Call (.Name x p) (e :: es) [] pos) (wpE X.K G W (mCall n mf ms)) := by
  obtain ⟨f, fd, ps, hF, hm, hk, hb⟩ := F.ex
  refine pe_conv (pe_callS hF (d.hr.mono hj) hg hm hk hb (fun σ => passAt d.tk σ) ha hdb he hpl) ?_
  rintro σ H Q ⟨φ, ρ, S, em, rs, h⟩
  refine ⟨φ, ρ, S, em, rs, h.bind fun ds S1 φ1 vs H1 x em1 rv h1 => ?_⟩
  split at h1
  · rename_i hl
    exact ⟨φ1, S1, ds, em1, rv, hl, h1.resig fun _ _ _ z => z⟩
  · exact h1.elim
/-- nothing is raised -/
def noX {α : Type} : Res α → Res α
  | .exc _ _ => .stuck
  | r => r
abbrev W0 : WX := fun _ _ _ _ => False
theorem outR.noX {K : PySem.W.Frag} {r : Res D} {φ : List Addr} {σ : St} {H : Hp} {Q : VK} (h : outR K G W (rE K) (MP.noX r) φ σ H Q) : outR K G (fun c d _ H => E0 c d H) (rE K) r φ [] H Q := by
  cases r with
  | ok a S => exact h
  | exc e S => exact h.elim
  | stuck => exact h
def mCall0 (mf : MFn) : MEx := fun _ S => noX (mf [] S)
theorem d_call0 {x : Str} {j : Nat} {mf : MFn} {p pos : Pos} (F : FnG X.prog X.w X.K X.mg X.base G j x mf 0) (d : DX X G W k) (hj : j ≤ k := by decide) (hg : Gl X x := by rfl) (hdb : (x == ("__debug__" : Str)) = false := by decide) : PE X (.Call (.Name x p) [] [] pos) (wpE X.K G W (mCall0 mf)) := by
  obtain ⟨f, fd, ps, hF, hm, hk, hb⟩ := F.ex
  refine pe_conv (pe_call0 hF (d.hr.mono hj) hg hm hk hb .nil passL hdb) ?_
  rintro σ H Q ⟨φ, ρ, S, em, rs, h⟩
  exact ⟨φ, S, [], em, .nil, rfl, h.noX⟩
def tMethS (C : Addr) (m : Str) (sp : Sp) (E : St → XK) (ta : TE) (t : TA) : TE := fun σ H Q => ta σ H fun x H1 => ∃ a dx fs, x = .ref a ∧ H1 a = some (.ins C dx fs) ∧ fs.lookup m = none ∧ t σ H1 fun vs H2 => sp (x :: vs) H2 Q (E σ)
theorem pe_methS {CX : CXT} {C f : Addr} {fd : FuncData} {ps : List Str} {sp : Sp} {E : St → XK} {m : Str} {o e : Expr} {es : List Expr} {ta : TE} {t : TA} {apos pos : Pos} {pl : Sem Bool} (he : PE X o ta) (c : Cls X.K C) (hm : Meth X.K C m f) (F : FnOk X.prog X.w X.K X.mg X.base CX k f fd ps sp) (hr : Room k X.A) (hb : Binds X.K fd ps [])
    (hx : ∀ σ, PassesAt CX X σ (E σ)) (ha : PA X (e :: es) t)
    (hst : starEach (e :: es) X.env = (false, eval e X.env) :: starEach es X.env := by rfl) (hpl : (backTo pos (starEach es X.env)).any (·.1) = false := by rfl)
    (ht : eval (.Call (.Attribute o m apos) (e :: es) [] pos) X.env = (do
      let ov ← eval o X.env
      standAt apos.atName
      let (f, first) ← holding [ov] (getMethod ov m pl)
      callWith pos f first (backTo pos (starEach (e :: es) X.env)) (backToKw pos (keywordEach [] X.env))) := by rfl) :
    PE X (.Call (.Attribute o m apos) (e :: es) [] pos) (tMethS C m sp E ta t) := by
  refine ⟨fun pins s σ H Q I h => ?_⟩
  refine PySem.W.methodCall_KW (pl := pl) (thn (he.run pins s σ H _ I h) fun u s1 ⟨x, H1, I1, rx, a, dx, fs, ex, ea, l, q⟩ => ?_) ht
  subst ex
  obtain rfl : u = Value.ref a := rx
  refine getmeth_ok I1 ea c hm l ?_
  refine PySem.W.callWith_K (first := [.ref a]) (h₀ := X.base) I.ok.mod.kin hm.kp (thn (ha.run pos pins s1 σ H1 _ I1 q) fun us s2 ⟨vs, H2, I2, r, q2⟩ => ⟨I2.kIn, ?_⟩) hst hpl
  exact run_fnS (us := .ref a :: us) (vs := .ref a :: vs) F hr hb (hx σ) I2 (.cons rfl r) q2
def selfC (c : Cl) (d : D) (S : Sto) : Res D := match d with
  | .loc l => match S[l]? with
    | some (.ins c' _) => if c' = c then .ok d S else .stuck
    | _ => .stuck
  | _ => .stuck
def mMeth (c : Cl) (n : Nat) (mf : MFn) (mo : MEx) (ms : MAr) : MEx := fun ρ S => (mo ρ S).bind fun d S1 => (selfC c d S1).bind fun _ _ => (ms ρ S1).bind fun ds S2 => if ds.length + 1 = n then mf (d :: ds) S2 else .stuck
def mMeth0 (c : Cl) (mf : MFn) (mo : MEx) : MEx := fun ρ S => (mo ρ S).bind fun d S1 => (selfC c d S1).bind fun _ _ => noX (mf [d] S1)
/-- the names of a class's fields are no method's -/
def noFld (c : Cl) (m : Str) : Bool :=
  [Fl.many, .cells, .inside, .row, .last_words, .named, .made, .line, .heap, .part, .to_go, .gone, .rooms, .memory, .marking, .fence, .rows, .phase, .room].all fun f => !okF c f || f.nm != m
theorem noFld_ok {c : Cl} {m : Str} (h : noFld c m = true) (f : Fl) (hf : okF c f = true) : f.nm ≠ m := by
  have hm : f ∈ [Fl.many, .cells, .inside, .row, .last_words, .named, .made, .line, .heap, .part, .to_go, .gone, .rooms, .memory, .marking, .fence, .rows, .phase, .room] := by cases f <;> decide
  have q := List.all_eq_true.mp h f hm
  rw [hf] at q
  simpa using q
theorem self_ok {K : PySem.W.Frag} {c : Cl} {d : D} {S : Sto} {φ : List Addr} {H : Hp} {v : V} {α : Type} {f : Res α} {m : Str} (hn : noFld c m = true) (em : Emb K G φ S H) (r : RV K H φ d v)
    {R : Hp → List Addr → α → V → Prop} {σ : St} {Q : VK} (h : outR K G W R ((selfC c d S).bind fun _ _ => f) φ σ H Q) : outR K G W R f φ σ H Q ∧ ∃ a dx fs, v = .ref a ∧ H a = some (.ins (G.cl c) dx fs) ∧ fs.lookup m = none := by
  unfold selfC at h
  split at h
  · split at h
    · rename_i l c' fs es
      split at h
      · rename_i hc
        subst hc
        obtain ⟨a, rfl, ha, ro⟩ := em.at_loc es r
        cases ro with
        | ins e1 rk hh hall => exact ⟨h, a, _, _, rfl, e1, rk.nolook fun f d hm => noFld_ok hn f (List.all_eq_true.mp hall _ hm)⟩
      · exact h.elim
    · exact h.elim
  · exact h.elim
theorem d_meth {c : Cl} {m : Str} {o e : Expr} {es : List Expr} {j n : Nat} {mf : MFn} {mo : MEx} {ms : MAr} {apos pos : Pos} {pl : Sem Bool} (F : FnC X.prog X.w X.K X.mg X.base G j c m mf n) (g : Gok X.K G) (d : DX X G W k) (he : PE X o (wpE X.K G W mo)) (ha : PA X (e :: es) (wpA X.K G W ms)) (hj : j ≤ k := by decide) (hn : noFld c m = true := by decide +kernel)
    (hst : starEach (e :: es) X.env = (false, eval e X.env) :: starEach es X.env := by rfl) (hpl : (backTo pos (starEach es X.env)).any (·.1) = false := by rfl)
    (ht : eval (.Call (.Attribute o m apos) (e :: es) [] pos) X.env = (do
      let ov ← eval o X.env
      standAt apos.atName
      let (f, first) ← holding [ov] (getMethod ov m pl)
      callWith pos f first (backTo pos (starEach (e :: es) X.env)) (backToKw pos (keywordEach [] X.env))) := by rfl) :
    PE X (.Call (.Attribute o m apos) (e :: es) [] pos) (wpE X.K G W (mMeth c n mf mo ms)) := by
  obtain ⟨f, fd, ps, hF, hm, hb, hh⟩ := F.ex
  refine pe_conv (pe_methS (pl := pl) he (g.cls c hh) hm hF (d.hr.mono hj) hb (fun σ => passAt d.tk σ) ha hst hpl ht) ?_
  rintro σ H Q ⟨φ, ρ, S, em, rs, h⟩
  refine ⟨φ, ρ, S, em, rs, h.bind fun o' S1 φ1 v H1 x em1 rv h1 => ?_⟩
  obtain ⟨h2, a, dx, fs, e1, e2, e3⟩ := self_ok hn em1 rv h1
  refine ⟨a, dx, fs, e1, e2, e3, φ1, ρ, S1, em1, rs.ext x, h2.bind fun ds S2 φ2 vs H2 x2 em2 rvs h3 => ?_⟩
  split at h3
  · rename_i hl
    exact ⟨φ2, S2, o' :: ds, em2, .cons (RV.ext x2 rv) rvs, hl, h3.resig fun _ _ _ z => z⟩
  · exact h3.elim
theorem d_meth0 {c : Cl} {m : Str} {o : Expr} {j : Nat} {mf : MFn} {mo : MEx} {apos pos : Pos} {pl : Sem Bool} (F : FnC X.prog X.w X.K X.mg X.base G j c m mf 1) (g : Gok X.K G) (d : DX X G W k) (he : PE X o (wpE X.K G W mo)) (hj : j ≤ k := by decide) (hn : noFld c m = true := by decide +kernel)
    (ht : eval (.Call (.Attribute o m apos) [] [] pos) X.env = (do
      let ov ← eval o X.env
      standAt apos.atName
      let (f, first) ← holding [ov] (getMethod ov m pl)
      callWith pos f first (backTo pos (starEach [] X.env)) (backToKw pos (keywordEach [] X.env))) := by rfl) :
    PE X (.Call (.Attribute o m apos) [] [] pos) (wpE X.K G W (mMeth0 c mf mo)) := by
  obtain ⟨f, fd, ps, hF, hm, hb, hh⟩ := F.ex
  refine pe_conv (pe_meth0 (pl := pl) he (g.cls c hh) hm hF (d.hr.mono hj) hb .nil passL ht) ?_
  rintro σ H Q ⟨φ, ρ, S, em, rs, h⟩
  refine ⟨φ, ρ, S, em, rs, h.bind fun o' S1 φ1 v H1 x em1 rv h1 => ?_⟩
  obtain ⟨h2, a, dx, fs, e1, e2, e3⟩ := self_ok hn em1 rv h1
  exact ⟨a, dx, fs, e1, e2, e3, φ1, S1, [o'], em1, .cons rv .nil, rfl, h2.noX⟩
/-- a class called -/
def mkEnd (l : Nat) : Res D → Res D
  | .ok .non S => .ok (.loc l) S
  | _ => .stuck
def mMake (c : Cl) (n : Nat) (mf : MFn) (ms : MAr) : MEx := fun ρ S => (ms ρ S).bind fun ds S1 => if ds.length + 1 = n then mkEnd S1.length (mf (.loc S1.length :: ds) (S1 ++ [.ins c []])) else .stuck
theorem make_ok {K : PySem.W.Frag} {c : Cl} {n : Nat} {mf : MFn} {φ : List Addr} {S : Sto} {H : Hp} {σ : St} {Q : VK} {ds : List D} {vs : List V} (hh : G.has c = true) (em : Emb K G φ S H) (rv : RVs K H φ ds vs) (hl : ds.length + 1 = n)
    (h : outR K G W (rE K) (mkEnd S.length (mf (.loc S.length :: ds) (S ++ [.ins c []]))) φ σ H Q) (x dx : Addr) (nx : H x = none) (ndx : H dx = none) (ne : dx ≠ x) :
    SpM K G mf n (.ref x :: vs) (upd (upd H dx (.own x)) x (.ins (G.cl c) dx [])) (fun v H2 => v = .non ∧ Q (.ref x) H2) E0 := by
  have n2 : (upd H dx (.own x)) x = none := by rw [upd_ne ne.symm]; exact nx
  have x1 : Ext φ H φ (upd H dx (.own x)) := .other ndx
  have x2 : Ext φ (upd H dx (.own x)) (φ ++ [x]) (upd (upd H dx (.own x)) x (.ins (G.cl c) dx [])) := .new n2
  have em1 : Emb K G φ S (upd H dx (.own x)) := em.other ndx
  have em2 := em1.new (o := .ins c []) (ho := .ins (G.cl c) dx []) n2 (.ins upd_same .nil hh rfl)
  have hloc : (φ ++ [x])[S.length]? = some x := by rw [← em.len]; simp
  refine ⟨φ ++ [x], S ++ [.ins c []], .loc S.length :: ds, em2, .cons (.loc hloc) (RVs.ext (x1.trans x2) rv), hl, ?_⟩
  cases q : mf (.loc S.length :: ds) (S ++ [.ins c []]) with
  | ok d S' =>
    rw [q] at h
    cases d with
    | non =>
      intro φ' v H' x3 em3 r3
      cases r3
      exact ⟨rfl, h φ' (.ref x) H' ((x1.trans x2).trans x3) em3 (.loc (pre_get x3.1 hloc))⟩
    | _ => exact h.elim
  | exc e S' => rw [q] at h; exact h.elim
  | stuck => rw [q] at h; exact h.elim
theorem d_make {c : Cl} {x : Str} {e : Expr} {es : List Expr} {j n : Nat} {mf : MFn} {ms : MAr} {p pos : Pos} (F : FnM X.prog X.w X.K X.mg X.base G j c mf n) (d : DX X G W k) (ha : PA X (e :: es) (wpA X.K G W ms)) (hx : c.nm = x := by rfl) (hj : j + 1 ≤ k := by decide) (hg : Gl X x := by rfl) (hdb : (x == ("__debug__" : Str)) = false := by decide)
    (he : starEach (e :: es) X.env = (false, eval e X.env) :: starEach es X.env := by rfl) (hpl : (backTo pos (starEach es X.env)).any (·.1) = false := by rfl) : PE X (.Call (.Name x p) (e :: es) [] pos) (wpE X.K G W (mMake c n mf ms)) := by
  subst hx
  obtain ⟨f, fd, ps, hF, hM, hm, hb, hh⟩ := F.ex
  refine pe_conv (pe_make hM hF (d.hr.mono hj) hg hm hb .nil passL ha hdb he hpl) ?_
  rintro σ H Q ⟨φ, ρ, S, em, rs, h⟩
  refine ⟨φ, ρ, S, em, rs, h.bind fun ds S1 φ1 vs H1 x em1 rv h1 => ?_⟩
  split at h1
  · rename_i hl
    intro x dx nx ndx ne
    rw [List.append_nil]
    exact make_ok hh em1 rv hl h1 x dx nx ndx ne
  · exact h1.elim
theorem d_make0 {c : Cl} {x : Str} {j n : Nat} {mf : MFn} {p pos : Pos} (F : FnM X.prog X.w X.K X.mg X.base G j c mf n) (d : DX X G W k) (hx : c.nm = x := by rfl) (hj : j + 1 ≤ k := by decide) (hg : Gl X x := by rfl) (hdb : (x == ("__debug__" : Str)) = false := by decide) :
    PE X (.Call (.Name x p) [] [] pos) (wpE X.K G W (mMake c n mf aNil)) := by
  subst hx
  obtain ⟨f, fd, ps, hF, hM, hm, hb, hh⟩ := F.ex
  refine pe_conv (pe_make0 hM hF (d.hr.mono hj) hg hm hb .nil passL hdb) ?_
  rintro σ H Q ⟨φ, ρ, S, em, rs, h⟩
  have h1 : outR X.K G W (rE X.K) (if ([] : List D).length + 1 = n then mkEnd S.length (mf (.loc S.length :: []) (S ++ [.ins c []])) else .stuck) φ σ H Q := h
  split at h1
  · rename_i hl
    exact fun x dx nx ndx ne => make_ok hh em .nil hl h1 x dx nx ndx ne
  · exact h1.elim
end
end MP

set_option Elab.async false
set_option linter.all false
set_option maxRecDepth 100000
set_option maxHeartbeats 2000000
namespace MP
open PySem L2
section
variable {X : Cx} {G : Ga} {W : WX} {k : Nat}
/-! ### statements -/
def sNil : MSt := fun ρ S => .nx ρ S
def sSeq (a b : MSt) : MSt := fun ρ S => match a ρ S with
  | .nx ρ' S' => b ρ' S'
  | r => r
theorem ss_nil : PSs X [] (wpS X.K G W sNil) := by
  refine pss_conv pss_nil ?_
  rintro D σ H ⟨φ, ρ, S, em, rs, h⟩
  exact h φ σ H .refl em rs
theorem seq_ok {K : PySem.W.Frag} {a b : MSt} {D : Ends} {σ : St} {H : Hp} (h : wpS K G W (sSeq a b) D σ H) : wpS K G W a { D with nx := wpS K G W b D } σ H := by
  obtain ⟨φ, ρ, S, em, rs, h⟩ := h
  refine ⟨φ, ρ, S, em, rs, ?_⟩
  unfold sSeq at h
  cases q : a ρ S with
  | nx ρ' S' => rw [q] at h; exact fun φ' σ' H' x em' rs' => ⟨φ', ρ', S', em', rs', h.from x⟩
  | rt d S' => rw [q] at h; exact h
  | bk ρ' S' => rw [q] at h; exact h
  | ct ρ' S' => rw [q] at h; exact h
  | xc e ρ' S' => rw [q] at h; exact h
  | stuck => rw [q] at h; exact h
theorem ss_cons {st : Stmt} {rest : List Stmt} {a b : MSt} (h1 : PS X st (wpS X.K G W a)) (h2 : PSs X rest (wpS X.K G W b)) : PSs X (st :: rest) (wpS X.K G W (sSeq a b)) :=
  pss_conv (pss_cons h1 h2) fun D σ H h => seq_ok h
theorem ss_one {st : Stmt} {a : MSt} (h1 : PS X st (wpS X.K G W a)) : PSs X [st] (wpS X.K G W a) := pss_one h1
/-- dead slots are forgotten -/
def clr : List Nat → Rho → Rho
  | [], ρ => ρ
  | i :: is, ρ => (clr is ρ).set i none
def sClr (is : List Nat) (a : MSt) : MSt := fun ρ S => match a ρ S with
  | .nx ρ' S' => .nx (clr is ρ') S'
  | r => r
theorem RS.clr {K : PySem.W.Frag} {φ : List Addr} {ρ : Rho} {σ : St} {H : Hp} (h : RS K φ ρ σ H) : ∀ is : List Nat, RS K φ (MP.clr is ρ) σ H
  | [] => h
  | i :: is => by
    have q := RS.clr h is
    unfold MP.clr
    refine ⟨by simp [q.len], fun j d e => ?_⟩
    by_cases hj : i = j
    · subst hj
      rw [List.getElem?_set] at e
      simp at e
    · rw [List.getElem?_set_ne hj] at e
      exact q.at_ j d e
theorem s_clr {st : Stmt} {a : MSt} (is : List Nat) (h : PS X st (wpS X.K G W a)) : PS X st (wpS X.K G W (sClr is a)) := by
  refine ps_conv h ?_
  rintro D σ H ⟨φ, ρ, S, em, rs, h⟩
  refine ⟨φ, ρ, S, em, rs, ?_⟩
  unfold sClr at h
  cases q : a ρ S with
  | nx ρ' S' => rw [q] at h; exact fun φ' σ' H' x em' rs' => h φ' σ' H' x em' (rs'.clr is)
  | rt d S' => rw [q] at h; exact h
  | bk ρ' S' => rw [q] at h; exact h
  | ct ρ' S' => rw [q] at h; exact h
  | xc e ρ' S' => rw [q] at h; exact h
  | stuck => rw [q] at h; exact h
def sSet (i : Nat) (m : MEx) : MSt := fun ρ S => (m ρ S).st ρ fun d S1 => .nx (ρ.set i (some d)) S1
theorem s_set {i : Nat} {x : Str} {e : Expr} {m : MEx} {pos pos' : Pos} (d : DX X G W k) (he : PE X e (wpE X.K G W m)) (hi : X.N[i]? = some x := by rfl) (hx : Loc X.env.scope x := by first | exact Or.inl rfl | exact Or.inr rfl)
    (hs : swapsWith e (some (.Name x pos')) pos.line X.env = pure false := by rfl) (hf : X.fn x = true ∨ X.env.scope.names.lookup x = some .local := by first | exact .inl rfl | exact .inr rfl) : PS X (.Assign [.Name x pos'] e pos) (wpS X.K G W (sSet i m)) := by
  refine ps_conv (ps_set d.nd hi hx he hs hf) ?_
  rintro D σ H ⟨φ, ρ, S, em, rs, h⟩
  refine ⟨φ, ρ, S, em, rs, outR.st rs h fun v S1 φ1 y H1 x em1 rv h1 => ?_⟩
  exact h1 φ1 _ H1 .refl em1 ((rs.ext x).set i rv)
def sExpr (m : MEx) : MSt := fun ρ S => (m ρ S).st ρ fun _ S1 => .nx ρ S1
theorem s_expr {e : Expr} {m : MEx} {pos : Pos} (he : PE X e (wpE X.K G W m)) (hs : swapsWith e none pos.line X.env = pure false := by rfl) : PS X (.Expr e pos) (wpS X.K G W (sExpr m)) := by
  refine ps_conv (ps_expr he hs) ?_
  rintro D σ H ⟨φ, ρ, S, em, rs, h⟩
  refine ⟨φ, ρ, S, em, rs, outR.st rs h fun v S1 φ1 y H1 x em1 rv h1 => ?_⟩
  exact h1 φ1 σ H1 .refl em1 (rs.ext x)
def sRet (m : MEx) : MSt := fun ρ S => (m ρ S).st ρ fun d S1 => .rt d S1
theorem s_ret {e : Expr} {m : MEx} {pos : Pos} (he : PE X e (wpE X.K G W m)) : PS X (.Return (some e) pos) (wpS X.K G W (sRet m)) := by
  refine ps_conv (ps_ret he) ?_
  rintro D σ H ⟨φ, ρ, S, em, rs, h⟩
  refine ⟨φ, ρ, S, em, rs, outR.st rs h fun v S1 φ1 y H1 x em1 rv h1 => ?_⟩
  exact h1 φ1 y H1 .refl em1 rv
def sRetN : MSt := fun _ S => .rt .non S
theorem s_retN {pos : Pos} : PS X (.Return none pos) (wpS X.K G W sRetN) := by
  refine ps_conv ps_retN ?_
  rintro D σ H ⟨φ, ρ, S, em, rs, h⟩
  exact h φ .non H .refl em .non
def sIf (c : MTs) (a b : MSt) : MSt := fun ρ S => (c ρ S).st ρ fun t S1 => if t = true then a ρ S1 else b ρ S1
theorem s_if {c : Expr} {as bs : List Stmt} {mc : MTs} {a b : MSt} {pos : Pos} (hc : PT X c (wpT X.K G W mc)) (ha : PSs X as (wpS X.K G W a)) (hb : PSs X bs (wpS X.K G W b)) : PS X (.If c as bs pos) (wpS X.K G W (sIf mc a b)) := by
  refine ps_conv (ps_if hc ha hb) ?_
  rintro D σ H ⟨φ, ρ, S, em, rs, h⟩
  refine ⟨φ, ρ, S, em, rs, outR.st rs h fun t S1 φ1 t' H1 x em1 rv h1 => ?_⟩
  cases (show t = t' from rv)
  cases t with
  | true => exact ⟨φ1, ρ, S1, em1, rs.ext x, h1⟩
  | false => exact ⟨φ1, ρ, S1, em1, rs.ext x, h1⟩
theorem s_pass {pos : Pos} : PS X (.Pass pos) (wpS X.K G W sNil) := ps_conv ps_pass fun D σ H ⟨φ, ρ, S, em, rs, h⟩ => h φ σ H .refl em rs
def sBrk : MSt := fun ρ S => .bk ρ S
def sCont : MSt := fun ρ S => .ct ρ S
theorem s_break {pos : Pos} : PS X (.Break pos) (wpS X.K G W sBrk) := ps_conv ps_break fun D σ H ⟨φ, ρ, S, em, rs, h⟩ => h φ σ H .refl em rs
theorem s_continue {pos : Pos} : PS X (.Continue pos) (wpS X.K G W sCont) := ps_conv ps_continue fun D σ H ⟨φ, ρ, S, em, rs, h⟩ => h φ σ H .refl em rs
/-- never reached -/
def sNev : MSt := fun _ _ => .stuck
theorem s_never {st : Stmt} : PS X st (wpS X.K G W sNev) := ⟨fun _ _ _ _ _ _ ⟨_, _, _, _, _, h⟩ => h.elim⟩
def sAug (i : Nat) (f : D → D → Sto → Res D) (m : MEx) : MSt := fun ρ S => match ρ[i]? with
  | some (some x) => (m ρ S).st ρ fun y S1 => (f x y S1).st ρ fun z S2 => .nx (ρ.set i (some z)) S2
  | _ => .stuck
theorem s_aug {i : Nat} {x : Str} {e : Expr} {m : MEx} {op : Operator} {f : D → D → Sto → Res D} {r : R2} {pos pos' : Pos} (d : DX X G W k) (ho : PIp X op r) (hs : OpS X.K G W f r) (he : PE X e (wpE X.K G W m)) (hi : X.N[i]? = some x := by rfl) (hx : Loc X.env.scope x := by first | exact Or.inl rfl | exact Or.inr rfl)
    (hf : X.fn x = true ∨ X.env.scope.names.lookup x = some .local := by first | exact .inl rfl | exact .inr rfl) : PS X (.AugAssign (.Name x pos') op e pos) (wpS X.K G W (sAug i f m)) := by
  refine ps_conv (ps_aug d.nd hi hx he ho hf) ?_
  rintro D σ H ⟨φ, ρ, S, em, rs, h⟩
  unfold sAug at h
  split at h
  · rename_i x' e1
    obtain ⟨v, ev, rv⟩ := rs.at_ i x' e1
    refine ⟨v, ev, φ, ρ, S, em, rs, outR.st rs h fun y S1 φ1 y' H1 x1 em1 ry h1 => ?_⟩
    refine hs φ1 S1 σ H1 x' y v y' _ em1 (RV.ext x1 rv) ry (outR.st (rs.ext x1) h1 fun z S2 φ2 z' H2 x2 em2 rz h2 => ?_)
    exact h2 φ2 _ H2 .refl em2 (((rs.ext x1).ext x2).set i rz)
  · exact h.elim
theorem ip_addU : PIp X .Add (rI0 fun i j => .int (i + j)) := fun pins s σ H x y v u Q I r1 r2 h => ip_add pins s σ H x y v u Q I r1 r2 h
theorem ip_subU : PIp X .Sub (rI0 fun i j => .int (i - j)) := fun pins s σ H x y v u Q I r1 r2 h => ip_sub pins s σ H x y v u Q I r1 r2 h
def addI (i j : Int) : Option Int := some (i + j)
theorem s_addI {K : PySem.W.Frag} : OpS K G W (intOp addI) (rI0 fun i j => .int (i + j)) := s_int0 fun _ _ _ e => (Option.some.inj e).symm
/-! ### targets: a name, or names of a tuple's (a list's) items -/
inductive Tg where
  | nm (i : Nat)
  | tp (is : List Nat)
def setAll (σ : St) : List Nat → List V → St
  | i :: is, v :: vs => setAll (σ.set i (some v)) is vs
  | _, _ => σ
def setAllM (ρ : Rho) : List Nat → List D → Rho
  | i :: is, v :: vs => setAllM (ρ.set i (some v)) is vs
  | _, _ => ρ
theorem RS.setAll {K : PySem.W.Frag} {φ : List Addr} {H : Hp} : ∀ {is : List Nat} {ρ : Rho} {σ : St} {ds : List D} {vs : List V}, RS K φ ρ σ H → RVs K H φ ds vs → RS K φ (setAllM ρ is ds) (MP.setAll σ is vs) H
  | [], _, _, _, _, h, .nil => h
  | [], _, _, _, _, h, .cons _ _ => h
  | _ :: _, _, _, _, _, h, .nil => h
  | i :: is, ρ, σ, _, _, h, .cons a b => by
    show RS K φ (setAllM (ρ.set i _) is _) (MP.setAll (σ.set i _) is _) H
    exact RS.setAll (h.set i a) b
def gTg (K : PySem.W.Frag) : Tg → TG
  | .nm i => gName i
  | .tp is => fun v σ H Q => ∃ a xs, v = .ref a ∧ (SqT K H a xs ∨ SqL K H a xs) ∧ xs.length = is.length ∧ Q (setAll σ is xs) H
def tgM : Tg → D → Rho → Sto → Option Rho
  | .nm i, d, ρ, _ => some (ρ.set i (some d))
  | .tp is, d, ρ, S => match items S d with
    | some xs => if xs.length = is.length then some (setAllM ρ is xs) else none
    | none => none
theorem tg_ok {K : PySem.W.Frag} {t : Tg} {d : D} {ρ ρ' : Rho} {S : Sto} {φ : List Addr} {σ : St} {H : Hp} {v : V} {Q : St → Hp → Prop} (em : Emb K G φ S H) (rs : RS K φ ρ σ H) (rv : RV K H φ d v) (h : tgM t d ρ S = some ρ')
    (q : ∀ σ', RS K φ ρ' σ' H → Q σ' H) : gTg K t v σ H Q := by
  cases t with
  | nm i => cases h; exact q _ (rs.set i rv)
  | tp is =>
    simp only [tgM] at h
    split at h
    · rename_i xs e
      split at h
      · rename_i hl
        cases h
        obtain ⟨a, vs, rfl, hs, rvs⟩ := items_ok em rv e
        exact ⟨a, vs, rfl, hs.symm, by rw [← RVs.length rvs]; exact hl, q _ (rs.setAll rvs)⟩
      · cases h
    · cases h
def gNs (is : List Nat) : TGs := fun vs σ H Q => vs.length = is.length ∧ Q (setAll σ is vs) H
theorem gs_nil : PGs X [] (gNs []) := ⟨fun pins s σ H vs us Q I r h => pgs_nil.run pins s σ H vs us Q I r ⟨List.length_eq_zero_iff.mp h.1, by
  have e : vs = [] := List.length_eq_zero_iff.mp h.1
  subst e
  exact h.2⟩⟩
theorem gs_cons {i : Nat} {is : List Nat} {x : Str} {es : List Expr} {pos : Pos} (d : DX X G W k) (hr : PGs X es (gNs is)) (hi : X.N[i]? = some x := by rfl) (hx : Loc X.env.scope x := by first | exact Or.inl rfl | exact Or.inr rfl)
    (hf : X.fn x = true ∨ X.env.scope.names.lookup x = some .local := by first | exact .inl rfl | exact .inr rfl)
    (hs : (assignEach (.Name x pos :: es) X.env).map (·.2) = assign (.Name x pos) X.env :: (assignEach es X.env).map (·.2) := by rfl) : PGs X (.Name x pos :: es) (gNs (i :: is)) := by
  refine ⟨fun pins s σ H vs us Q I r h => ?_⟩
  refine (pgs_cons (pg_name d.nd hi hx hf) hr hs).run pins s σ H vs us Q I r ?_
  obtain ⟨hl, hq⟩ := h
  cases vs with
  | nil => simp at hl
  | cons v vs => exact ⟨v, vs, rfl, by simpa using hl, hq⟩
theorem g_nm {i : Nat} {x : Str} {pos : Pos} (d : DX X G W k) (hi : X.N[i]? = some x := by rfl) (hx : Loc X.env.scope x := by first | exact Or.inl rfl | exact Or.inr rfl)
    (hf : X.fn x = true ∨ X.env.scope.names.lookup x = some .local := by first | exact .inl rfl | exact .inr rfl) : PG X (.Name x pos) (gTg X.K (.nm i)) := pg_name d.nd hi hx hf
theorem g_tp {es : List Expr} {kk : Nat} {is : List Nat} {pos : Pos} (d : DX X G W k) (h : PGs X es (gNs is)) (hn : (assignEach es X.env).length = is.length := by rfl) (hst : (assignEach es X.env).findIdx? (·.1) = none := by rfl) : PG X (.Tuple es kk pos) (gTg X.K (.tp is)) := by
  refine pg_conv (pg_or2 (pg_tup d.calm h hn hst) (pg_lst d.calm h hn hst)) ?_
  rintro v σ H Q ⟨a, xs, rfl, hs, hl, hq⟩
  rcases hs with hs | hs
  · exact .inl ⟨a, xs, rfl, hs, hl, hl, hq⟩
  · exact .inr ⟨a, xs, rfl, hs, hl, hl, hq⟩
def sTgO (r : Option Rho) (S : Sto) : SR := match r with
  | some ρ => .nx ρ S
  | none => .stuck
def sAsg (t : Tg) (m : MEx) : MSt := fun ρ S => (m ρ S).st ρ fun d S1 => sTgO (tgM t d ρ S1) S1
theorem s_asg {tg e : Expr} {t : Tg} {m : MEx} {pos : Pos} (he : PE X e (wpE X.K G W m)) (hg : PG X tg (gTg X.K t)) (hs : swapsWithSole [tg] e pos.line X.env = pure false := by rfl) (hw : swappedStores [tg] e X.env = pure none := by rfl)
    (h1 : (assignEach [tg] X.env).map (·.2) = [assign tg X.env] := by rfl) : PS X (.Assign [tg] e pos) (wpS X.K G W (sAsg t m)) := by
  refine ps_conv (ps_asg he hg hs hw h1) ?_
  rintro D σ H ⟨φ, ρ, S, em, rs, h⟩
  refine ⟨φ, ρ, S, em, rs, outR.st rs h fun d S1 φ1 v H1 x em1 rv h1 => ?_⟩
  cases q : tgM t d ρ S1 with
  | none => rw [q] at h1; exact h1.elim
  | some ρ' =>
    rw [q] at h1
    exact tg_ok em1 (rs.ext x) rv q fun σ' rs' => h1 φ1 σ' H1 .refl em1 rs'
/-! ### while -/
def whileN (c : MTs) (b : MSt) : Nat → MSt
  | 0 => fun _ _ => .stuck
  | n + 1 => fun ρ S => (c ρ S).st ρ fun t S1 => if t = true then
      match b ρ S1 with
      | .nx ρ' S' => whileN c b n ρ' S'
      | .ct ρ' S' => whileN c b n ρ' S'
      | .bk ρ' S' => .nx ρ' S'
      | r => r
    else .nx ρ S1
def FUEL : Nat := 1000000
def sWhile (c : MTs) (b : MSt) : MSt := whileN c b FUEL
theorem s_while {c : Expr} {body : List Stmt} {mc : MTs} {mb : MSt} {pos : Pos} (d : DX X G W k) (hc : PT X c (wpT X.K G W mc)) (hb : PSs X body (wpS X.K G W mb)) : PS X (.While c body [] pos) (wpS X.K G W (sWhile mc mb)) := by
  refine ps_conv (ps_while d.pn hc hb) ?_
  intro D σ H h
  refine ⟨fun m σ H => wpS X.K G W (whileN mc mb m) D σ H, ⟨FUEL, h⟩, fun m σ H h => ?_⟩
  obtain ⟨φ, ρ, S, em, rs, h⟩ := h
  cases m with
  | zero => exact h.elim
  | succ n =>
    refine ⟨φ, ρ, S, em, rs, outR.st rs h fun t S1 φ1 t' H1 x em1 rv h1 => ?_⟩
    cases (show t = t' from rv)
    cases t with
    | false => exact h1 φ1 σ H1 .refl em1 (rs.ext x)
    | true =>
      rw [if_pos rfl] at h1 ⊢
      refine ⟨fun σ' H' => wpS X.K G W (whileN mc mb n) D σ' H', fun σ' H' z => ⟨n, Nat.lt_succ_self n, z⟩, φ1, ρ, S1, em1, rs.ext x, ?_⟩
      cases q : mb ρ S1 with
      | nx ρ' S' => rw [q] at h1; exact fun φ' σ' H' x' em' rs' => ⟨φ', ρ', S', em', rs', h1.from x'⟩
      | ct ρ' S' => rw [q] at h1; exact fun φ' σ' H' x' em' rs' => ⟨φ', ρ', S', em', rs', h1.from x'⟩
      | bk ρ' S' => rw [q] at h1; exact h1
      | rt d S' => rw [q] at h1; exact h1
      | xc e ρ' S' => rw [q] at h1; exact h1
      | stuck => rw [q] at h1; exact h1
/-! ### for -/
structure MIt where
  get : Nat → Sto → Option (Option D)
  fuel : Nat
def ItOk (K : PySem.W.Frag) (G : Ga) (it : MIt) (J : It) (φ0 : List Addr) (H0 : Hp) : Prop :=
  ∀ (i : Nat) φ S H, Ext φ0 H0 φ H → Emb K G φ S H → match it.get i S with
    | none => True
    | some none => J.stop i H
    | some (some d) => J.go i H ∧ ∀ y H', J.yld i H y H' → Ext φ H φ H' ∧ Emb K G φ S H' ∧ RV K H' φ d y
abbrev MIx := Rho → Sto → Res MIt
def wpI (K : PySem.W.Frag) (G : Ga) (W : WX) (m : MIx) : TI := fun σ H R => ∃ φ ρ S, Emb K G φ S H ∧ RS K φ ρ σ H ∧
  match m ρ S with
  | .ok it S' => ∀ φ' J H', Ext φ H φ' H' → Emb K G φ' S' H' → ItOk K G it J φ' H' → R J H'
  | .exc e S' => ∀ φ' H', Ext φ H φ' H' → Emb K G φ' S' H' → XW K G W e φ' σ H'
  | .stuck => False
def forGo (it : MIt) (t : Tg) (b : MSt) : Nat → Nat → MSt
  | 0, _ => fun _ _ => .stuck
  | n + 1, i => fun ρ S => match it.get i S with
    | none => .stuck
    | some none => .nx ρ S
    | some (some d) => match tgM t d ρ S with
      | none => .stuck
      | some ρ1 => match b ρ1 S with
        | .nx ρ' S' => forGo it t b n (i + 1) ρ' S'
        | .ct ρ' S' => forGo it t b n (i + 1) ρ' S'
        | .bk ρ' S' => .nx ρ' S'
        | r => r
def sFor (mi : MIx) (t : Tg) (b : MSt) : MSt := fun ρ S => (mi ρ S).st ρ fun it S1 => forGo it t b it.fuel 0 ρ S1
theorem s_for {tg iter : Expr} {body : List Stmt} {mi : MIx} {t : Tg} {mb : MSt} {pos : Pos} (d : DX X G W k) (hi : PI X tg iter (wpI X.K G W mi)) (hg : PG X tg (gTg X.K t)) (hb : PSs X body (wpS X.K G W mb))
    (hs : ∀ x, foldedSetIterable iter X.env x = pure x := by intro _; rfl) : PS X (.For tg iter body [] pos) (wpS X.K G W (sFor mi t mb)) := by
  refine ps_conv (ps_for d.pn d.calm hi hg hb hs) ?_
  rintro D σ H ⟨φ, ρ, S, em, rs, h⟩
  refine ⟨φ, ρ, S, em, rs, ?_⟩
  unfold sFor at h
  cases q : mi ρ S with
  | stuck => rw [q] at h; exact h
  | exc e S' => rw [q] at h; exact fun φ' H' x em' => h φ' σ H' x em' (rs.ext x)
  | ok it S1 =>
    rw [q] at h
    intro φ1 J H1 x1 em1 hJ
    refine ⟨fun i m σ H => ∃ φ ρ S, Ext φ1 H1 φ H ∧ Emb X.K G φ S H ∧ RS X.K φ ρ σ H ∧ outS X.K G W (forGo it t mb m i ρ S) φ H D, ⟨it.fuel, φ1, ρ, S1, .refl, em1, rs.ext x1, outS.from x1 h⟩, ?_⟩
    rintro i m σ2 H2 ⟨φ2, ρ2, S2, x2, em2, rs2, h2⟩
    cases m with
    | zero => exact h2.elim
    | succ n =>
      have hj := hJ i φ2 S2 H2 x2 em2
      unfold forGo at h2
      cases hget : it.get i S2 with
      | none => rw [hget] at h2; exact h2.elim
      | some od =>
        cases od with
        | none => rw [hget] at h2 hj; exact .inl ⟨hj, h2 φ2 σ2 H2 .refl em2 rs2⟩
        | some dv =>
          rw [hget] at h2 hj
          refine .inr ⟨hj.1, fun σ' H' => ∃ φ ρ S, Ext φ1 H1 φ H' ∧ Emb X.K G φ S H' ∧ RS X.K φ ρ σ' H' ∧ outS X.K G W (forGo it t mb n (i + 1) ρ S) φ H' D, fun σ' H' z => ⟨n, Nat.lt_succ_self n, z⟩, fun y H3 hy => ?_⟩
          obtain ⟨x3, em3, rv⟩ := hj.2 y H3 hy
          cases ht : tgM t dv ρ2 S2 with
          | none => simp only [ht] at h2; exact h2.elim
          | some ρ3 =>
            simp only [ht] at h2
            refine tg_ok em3 (rs2.ext x3) rv ht fun σ3 rs3 => ⟨φ2, ρ3, S2, em3, rs3, ?_⟩
            have h2' := outS.from x3 h2
            cases qb : mb ρ3 S2 with
            | nx ρ' S' => rw [qb] at h2'; exact fun φ' σ' H' x' em' rs' => ⟨φ', ρ', S', (x2.trans x3).trans x', em', rs', h2'.from x'⟩
            | ct ρ' S' => rw [qb] at h2'; exact fun φ' σ' H' x' em' rs' => ⟨φ', ρ', S', (x2.trans x3).trans x', em', rs', h2'.from x'⟩
            | bk ρ' S' => rw [qb] at h2'; exact h2'
            | rt d S' => rw [qb] at h2'; exact h2'
            | xc e ρ' S' => rw [qb] at h2'; exact h2'
            | stuck => rw [qb] at h2'; exact h2'
end
end MP

set_option Elab.async false
set_option linter.all false
set_option maxRecDepth 100000
set_option maxHeartbeats 2000000
namespace MP
open PySem L2
section
variable {X : Cx} {G : Ga} {W : WX} {k : Nat}
/-! ### what is walked -/
def altI (a b : MIx) : MIx := fun ρ S => match a ρ S with
  | .stuck => b ρ S
  | r => r
theorem i_alt {tg e : Expr} {a b : MIx} (ha : PI X tg e (wpI X.K G W a)) (hb : PI X tg e (wpI X.K G W b)) : PI X tg e (wpI X.K G W (altI a b)) := by
  refine pi_conv (pi_or2 ha hb) ?_
  rintro σ H Q ⟨φ, ρ, S, em, rs, h⟩
  unfold altI at h
  cases q : a ρ S with
  | ok d S' => rw [q] at h; exact .inl ⟨φ, ρ, S, em, rs, by rw [q]; exact h⟩
  | exc d S' => rw [q] at h; exact .inl ⟨φ, ρ, S, em, rs, by rw [q]; exact h⟩
  | stuck => rw [q] at h; exact .inr ⟨φ, ρ, S, em, rs, h⟩
def Res.it {α : Type} (r : Res α) (f : α → Sto → Option MIt) : Res MIt := r.bind fun a S => match f a S with
  | some it => .ok it S
  | none => .stuck
def lstGet (l : Nat) : Nat → Sto → Option (Option D) := fun i S => match S[l]? with
  | some (.lst _ xs) => some xs[i]?
  | _ => none
def itL (d : D) (S : Sto) : Option MIt := match d with
  | .loc l => match S[l]? with
    | some (.lst _ xs) => some ⟨lstGet l, xs.length + 1⟩
    | _ => none
  | _ => none
def miL (m : MEx) : MIx := fun ρ S => (m ρ S).it itL
theorem sq_inj {K : PySem.W.Frag} {H : Hp} {φ : List Addr} {fz : Bool} {xs : List D} {a : Addr} (ro : RO K G H φ (.lst fz xs) a) : ∃ vs, SqL K H a vs ∧ RVs K H φ xs vs := ro.sql
theorem it_list {K : PySem.W.Frag} {l : Nat} {a : Addr} {n : Nat} {φ0 : List Addr} {H0 : Hp} (ha : φ0[l]? = some a) : ItOk K G ⟨lstGet l, n⟩ (Itl K a) φ0 H0 := by
  intro i φ S H x em
  have ha' := pre_get x.1 ha
  show match lstGet l i S with | none => True | some none => _ | some (some d) => _
  unfold lstGet
  split
  · trivial
  · rename_i e
    split at e
    · rename_i fz xs es
      obtain ⟨vs, sq, rv⟩ := (em.ob l _ a es ha').sql
      have e' : xs[i]? = none := Option.some.inj e
      exact ⟨vs, sq, by rw [← RVs.length rv]; exact List.getElem?_eq_none_iff.mp e'⟩
    · cases e
  · rename_i d e
    split at e
    · rename_i fz xs es
      obtain ⟨vs, sq, rv⟩ := (em.ob l _ a es ha').sql
      have e' : xs[i]? = some d := Option.some.inj e
      obtain ⟨v, ev, r⟩ := RVs.get rv e'
      refine ⟨⟨vs, v, sq, ev⟩, ?_⟩
      rintro y H' ⟨rfl, hy⟩
      have := hy vs sq
      rw [ev] at this
      cases this
      exact ⟨.refl, em, r⟩
    · cases e
theorem i_list {tg e : Expr} {m : MEx} (he : PE X e (wpE X.K G W m)) : PI X tg e (wpI X.K G W (miL m)) := by
  refine pi_conv (pi_list he) ?_
  rintro σ H R ⟨φ, ρ, S, em, rs, h⟩
  refine ⟨φ, ρ, S, em, rs, ?_⟩
  unfold miL Res.it at h
  cases q : m ρ S with
  | stuck => rw [q] at h; exact h
  | exc e S' => rw [q] at h; exact h
  | ok d S1 =>
    rw [q] at h
    intro φ1 v H1 x1 em1 rv
    simp only [Res.bind_ok] at h
    unfold itL at h
    split at h
    · rename_i it S2 hh
      split at hh
      · rename_i it' e1
        split at e1
        · rename_i l
          split at e1
          · rename_i fz xs es
            cases e1
            cases hh
            obtain ⟨a, rfl, ha, ro⟩ := em1.at_loc es rv
            obtain ⟨vs, sq, _⟩ := ro.sql
            exact ⟨a, rfl, ⟨vs, sq⟩, h φ1 _ H1 x1 em1 (it_list ha)⟩
          · cases e1
        · cases e1
      · cases hh
    · rename_i hh; split at hh <;> cases hh
    · exact h.elim
/-- a tuple's items, a text's signs: they stay as they are -/
def fixGet (xs : List D) : Nat → Sto → Option (Option D) := fun i _ => some xs[i]?
def itT (d : D) (_ : Sto) : Option MIt := match d with
  | .tup xs => some ⟨fixGet xs, xs.length + 1⟩
  | _ => none
def miT (m : MEx) : MIx := fun ρ S => (m ρ S).it itT
/-- the common part: an expression, then its iterator -/
theorem it_core {K : PySem.W.Frag} {α : Type} {β : Type} {R : Hp → List Addr → α → β → Prop} {m : Rho → Sto → Res α} {f : α → Sto → Option MIt} {φ : List Addr} {ρ : Rho} {S : Sto} {σ : St} {H : Hp} {RR : It → Hp → Prop} {Q1 : β → Hp → Prop}
    (h : match (m ρ S).it f with
      | .ok it S' => ∀ φ' J H', Ext φ H φ' H' → Emb K G φ' S' H' → ItOk K G it J φ' H' → RR J H'
      | .exc e S' => ∀ φ' H', Ext φ H φ' H' → Emb K G φ' S' H' → XW K G W e φ' σ H'
      | .stuck => False)
    (kk : ∀ a S1 φ1 b H1 it, Ext φ H φ1 H1 → Emb K G φ1 S1 H1 → R H1 φ1 a b → f a S1 = some it → (∀ J, ItOk K G it J φ1 H1 → RR J H1) → Q1 b H1) : outR K G W R (m ρ S) φ σ H Q1 := by
  unfold Res.it at h
  cases q : m ρ S with
  | stuck => rw [q] at h; exact h
  | exc e S' => rw [q] at h; exact h
  | ok d S1 =>
    rw [q] at h
    intro φ1 v H1 x1 em1 rv
    simp only [Res.bind_ok] at h
    cases hf : f d S1 with
    | none => simp only [hf] at h
    | some it =>
      simp only [hf] at h
      exact kk d S1 φ1 v H1 it x1 em1 rv hf fun J hJ => h φ1 J H1 x1 em1 hJ
theorem i_tup {tg e : Expr} {m : MEx} (he : PE X e (wpE X.K G W m)) : PI X tg e (wpI X.K G W (miT m)) := by
  refine pi_conv (pi_tup he) ?_
  rintro σ H R ⟨φ, ρ, S, em, rs, h⟩
  refine ⟨φ, ρ, S, em, rs, it_core h fun d S1 φ1 v H1 it x1 em1 rv hf hR => ?_⟩
  unfold itT at hf
  split at hf
  · rename_i xs
    cases hf
    cases rv with
    | @tup _ vs a s q =>
      refine ⟨_, rfl, ⟨_, s⟩, hR _ ?_⟩
      intro i φ' S' H' x em'
      show match fixGet xs i S' with | none => True | some none => _ | some (some d) => _
      unfold fixGet
      have s' := x.2.sqt s
      have q' := RVs.ext x q
      cases e : xs[i]? with
      | none => exact ⟨vs, s', by rw [← RVs.length q']; exact List.getElem?_eq_none_iff.mp e⟩
      | some d =>
        obtain ⟨w, ew, r⟩ := RVs.get q' e
        refine ⟨⟨vs, w, s', ew⟩, ?_⟩
        rintro y H'' ⟨rfl, hy⟩
        have := hy vs s'
        rw [ew] at this
        cases this
        exact ⟨.refl, em', r⟩
  · cases hf
def signs (z : Str) : List D := z.cps.toList.map fun c => .str ⟨#[c]⟩
def itS (d : D) (_ : Sto) : Option MIt := match d with
  | .str z => some ⟨fixGet (signs z), z.length + 1⟩
  | _ => none
def miS (m : MEx) : MIx := fun ρ S => (m ρ S).it itS
theorem i_str {tg e : Expr} {m : MEx} (he : PE X e (wpE X.K G W m)) : PI X tg e (wpI X.K G W (miS m)) := by
  refine pi_conv (pi_str he) ?_
  rintro σ H R ⟨φ, ρ, S, em, rs, h⟩
  refine ⟨φ, ρ, S, em, rs, it_core h fun d S1 φ1 v H1 it x1 em1 rv hf hR => ?_⟩
  unfold itS at hf
  split at hf
  · rename_i z
    cases hf
    cases rv
    refine ⟨z, rfl, hR _ ?_⟩
    intro i φ' S' H' x em'
    show match fixGet (signs z) i S' with | none => True | some none => _ | some (some d) => _
    unfold fixGet signs
    have e0 : z.cps.toList[i]? = z.cps[i]? := by simp
    rw [List.getElem?_map, e0]
    cases e : z.cps[i]? with
    | none => exact Array.getElem?_eq_none_iff.mp e
    | some c =>
      refine ⟨(Array.getElem?_eq_some_iff.mp e).1, ?_⟩
      rintro y H'' ⟨rfl, c', e', rfl⟩
      rw [e] at e'
      cases e'
      exact ⟨.refl, em', .str⟩
  · cases hf
def rngGet (lo : Int) (n : Nat) : Nat → Sto → Option (Option D) := fun i _ => some (if i < n then some (.int (lo + i)) else none)
theorem it_rng {K : PySem.W.Frag} {lo : Int} {n m : Nat} {φ0 : List Addr} {H0 : Hp} : ItOk K G ⟨rngGet lo n, m⟩ (Itr lo n) φ0 H0 := by
  intro i φ S H x em
  show match rngGet lo n i S with | none => True | some none => _ | some (some d) => _
  unfold rngGet
  by_cases h : i < n
  · rw [if_pos h]
    refine ⟨h, ?_⟩
    rintro y H' ⟨rfl, rfl⟩
    exact ⟨.refl, em, .int⟩
  · rw [if_neg h]
    exact Nat.le_of_not_lt h
def itR1 (ds : List D) (_ : Sto) : Option MIt := match ds with
  | [.int j] => if -(2 ^ 62) ≤ j ∧ j < 2 ^ 62 then some ⟨rngGet 0 j.toNat, j.toNat + 1⟩ else none
  | _ => none
def itR2 (ds : List D) (_ : Sto) : Option MIt := match ds with
  | [.int i, .int j] => if -(2 ^ 62) ≤ i ∧ i < 2 ^ 62 ∧ -(2 ^ 62) ≤ j ∧ j < 2 ^ 62 then some ⟨rngGet i (j - i).toNat, (j - i).toNat + 1⟩ else none
  | _ => none
def miR1 (ms : MAr) : MIx := fun ρ S => (ms ρ S).it itR1
def miR2 (ms : MAr) : MIx := fun ρ S => (ms ρ S).it itR2
theorem i_rng1 {tg a : Expr} {ms : MAr} {p pos : Pos} (hm : X.mg "range" = none) (ha : PA X [a] (wpA X.K G W ms)) (hg : Gl X "range" := by rfl) (hs : starEach [a] X.env = [(false, eval a X.env)] := by rfl) : PI X tg (.Call (.Name "range" p) [a] [] pos) (wpI X.K G W (miR1 ms)) := by
  refine pi_conv (pi_range1 hg hm ha hs) ?_
  rintro σ H R ⟨φ, ρ, S, em, rs, h⟩
  refine ⟨φ, ρ, S, em, rs, it_core h fun d S1 φ1 v H1 it x1 em1 rv hf hR => ?_⟩
  unfold itR1 at hf
  split at hf
  · split at hf
    · rename_i j hj
      cases hf
      cases (show RVs X.K H1 φ1 _ v from rv) with
      | cons a b => cases a; cases b; exact ⟨j, rfl, hj.1, hj.2, hR _ it_rng⟩
    · cases hf
  · cases hf
theorem i_rng2 {tg a b : Expr} {ms : MAr} {p pos : Pos} (hm : X.mg "range" = none) (ha : PA X [a, b] (wpA X.K G W ms)) (hg : Gl X "range" := by rfl) (hs : starEach [a, b] X.env = [(false, eval a X.env), (false, eval b X.env)] := by rfl) (hs2 : starEach [b] X.env = [(false, eval b X.env)] := by rfl) :
    PI X tg (.Call (.Name "range" p) [a, b] [] pos) (wpI X.K G W (miR2 ms)) := by
  refine pi_conv (pi_range2 hg hm ha hs hs2) ?_
  rintro σ H R ⟨φ, ρ, S, em, rs, h⟩
  refine ⟨φ, ρ, S, em, rs, it_core h fun d S1 φ1 v H1 it x1 em1 rv hf hR => ?_⟩
  unfold itR2 at hf
  split at hf
  · split at hf
    · rename_i i j hj
      cases hf
      cases (show RVs X.K H1 φ1 _ v from rv) with
      | cons a b => cases a; cases b with
        | cons a b => cases a; cases b; exact ⟨i, j, rfl, hj, hR _ it_rng⟩
    · cases hf
  · cases hf
/-- enumerate(list) -/
def enGet (l : Nat) : Nat → Sto → Option (Option D) := fun i S => match S[l]? with
  | some (.lst _ xs) => some (xs[i]?.map fun d => .tup [.int (i : Nat), d])
  | _ => none
def itEn (ds : List D) (S : Sto) : Option MIt := match ds with
  | [.loc l] => match S[l]? with
    | some (.lst _ xs) => some ⟨enGet l, xs.length + 1⟩
    | _ => none
  | _ => none
def miEn (ms : MAr) : MIx := fun ρ S => (ms ρ S).it itEn
theorem i_enum {e : Expr} {elts : List Expr} {kk : Nat} {ms : MAr} {p pos tpos : Pos} (hm : X.mg "enumerate" = none) (ha : PA X [e] (wpA X.K G W ms)) (hg : Gl X "enumerate" := by rfl) (hs : starEach [e] X.env = [(false, eval e X.env)] := by rfl) :
    PI X (.Tuple elts kk tpos) (.Call (.Name "enumerate" p) [e] [] pos) (wpI X.K G W (miEn ms)) := by
  refine pi_conv (pi_enum hg hm ha hs) ?_
  rintro σ H R ⟨φ, ρ, S, em, rs, h⟩
  refine ⟨φ, ρ, S, em, rs, it_core h fun d S1 φ1 v H1 it x1 em1 rv hf hR => ?_⟩
  unfold itEn at hf
  split at hf
  · rename_i l
    split at hf
    · rename_i fz xs es
      cases hf
      cases (show RVs X.K H1 φ1 _ v from rv) with
      | cons r b =>
        cases b
        obtain ⟨a, rfl, ha, ro⟩ := em1.at_loc es r
        obtain ⟨vs, sq, rvs⟩ := ro.sql
        refine ⟨a, vs, rfl, sq, hR _ ?_⟩
        intro i φ' S' H' x em'
        show match enGet l i S' with | none => True | some none => _ | some (some d) => _
        unfold enGet
        have ha' := pre_get x.1 ha
        cases es' : S'[l]? with
        | none => trivial
        | some o =>
          cases o with
          | lst fz' ys =>
            obtain ⟨ws, sq', rvs'⟩ := (em'.ob l _ a es' ha').sql
            cases e : ys[i]? with
            | none => simp only [e, Option.map_none]; exact ⟨ws, sq', by rw [← RVs.length rvs']; exact List.getElem?_eq_none_iff.mp e⟩
            | some d =>
              simp only [e, Option.map_some]
              obtain ⟨w, ew, r'⟩ := RVs.get rvs' e
              refine ⟨⟨ws, w, sq', ew⟩, ?_⟩
              rintro y H'' ⟨T, x0, rfl, hT, rfl, hy⟩
              have := hy ws sq'
              rw [ew] at this
              cases this
              exact ⟨.other hT, em'.other hT, .tup (.of upd_same) (.cons .int (.cons (RV.ext (.other hT) r') .nil))⟩
          | dct _ _ => trivial
          | ins _ _ => trivial
    · cases hf
  · cases hf
/-! ### comprehensions -/
def lcGo (it : MIt) (t : Tg) (tt : MTs) (me : MEx) (ρ : Rho) (L : Nat) : Nat → Nat → Sto → Res D
  | 0, _, _ => .stuck
  | n + 1, i, S => match it.get i S with
    | none => .stuck
    | some none => .ok (.loc L) S
    | some (some d) => match tgM t d ρ S with
      | none => .stuck
      | some ρ1 => (noX (tt ρ1 S)).bind fun b S2 => if b = true then
          (noX (me ρ1 S2)).bind fun y S3 => match S3[L]? with
            | some (.lst false acc) => if acc.length < sizeLine then lcGo it t tt me ρ L n (i + 1) (S3.set L (.lst false (acc ++ [y]))) else .stuck
            | _ => .stuck
        else lcGo it t tt me ρ L n (i + 1) S2
def mLc (mi : MIx) (t : Tg) (tt : MTs) (me : MEx) (own : List Nat) : MEx := fun ρ S => (mi ρ S).bind fun it S1 => lcGo it t tt me (clr own ρ) S1.length it.fuel 0 (S1 ++ [.lst false []])
def tYesM : MTs := fun _ S => .ok true S
end
end MP

set_option Elab.async false
set_option linter.all false
set_option maxRecDepth 100000
set_option maxHeartbeats 2000000
namespace MP
open PySem L2
section
variable {X : Cx} {G : Ga} {W : WX} {k : Nat}
theorem wipe_get (σ : St) (j : Nat) : ∀ vs : List Nat, (wipe σ vs)[j]? = if j ∈ vs then σ[j]?.map (fun _ => (none : Option V)) else σ[j]?
  | [] => by simp [wipe]
  | v :: vs => by
    show ((wipe σ vs).set v none)[j]? = _
    have ih := wipe_get σ j vs
    by_cases hj : v = j
    · subst hj
      by_cases hl : v < σ.length
      · rw [List.getElem?_set_self (by rw [wipe_length]; exact hl), if_pos (by simp), List.getElem?_eq_getElem hl]
        rfl
      · rw [List.getElem?_eq_none (by simp [wipe_length]; omega), if_pos (by simp), List.getElem?_eq_none (by omega)]
        rfl
    · rw [List.getElem?_set_ne hj, ih]
      have hj' : ¬ j = v := fun e => hj e.symm
      simp only [List.mem_cons, hj', false_or]
theorem wipe_set {σ : St} {vs : List Nat} {i : Nat} {o : Option V} (h : i ∈ vs) : wipe ((wipe σ vs).set i o) vs = wipe σ vs := by
  apply List.ext_getElem?
  intro j
  rw [wipe_get, wipe_get, List.getElem?_set, wipe_get, wipe_length]
  by_cases hj : j ∈ vs
  · by_cases hi : i = j
    · subst hi
      by_cases hl : i < σ.length
      · simp [h, hl]
      · simp [h, hl, List.getElem?_eq_none (Nat.le_of_not_lt hl)]
    · simp [hj, hi, Option.map_map, Function.comp_def]
  · have hi : ¬ i = j := fun e => hj (e ▸ h)
    simp [hj, hi]
theorem wipe_idem {σ : St} {vs : List Nat} : wipe (wipe σ vs) vs = wipe σ vs := by
  apply List.ext_getElem?
  intro j
  rw [wipe_get, wipe_get]
  by_cases hj : j ∈ vs <;> simp [hj, Option.map_map, Function.comp_def]
theorem wipe_over {τ : St} {vs : List Nat} {i : Nat} {o : Option V} (h : i ∈ vs) : wipe (τ.set i o) vs = wipe τ vs := by
  apply List.ext_getElem?
  intro j
  rw [wipe_get, wipe_get, List.getElem?_set]
  by_cases hi : i = j
  · subst hi
    by_cases hl : i < τ.length
    · simp [h, hl]
    · simp [h, hl, List.getElem?_eq_none (Nat.le_of_not_lt hl)]
  · simp [hi]
theorem wipe_setAll {vs : List Nat} {σ : St} : ∀ {is : List Nat} {xs : List V} {τ : St}, (∀ i ∈ is, i ∈ vs) → wipe τ vs = wipe σ vs → wipe (setAll τ is xs) vs = wipe σ vs
  | [], [], _, _, e => e
  | [], _ :: _, _, _, e => e
  | _ :: _, [], _, _, e => e
  | i :: is, x :: xs, τ, h, e => by
    show wipe (setAll (τ.set i (some x)) is xs) vs = wipe σ vs
    exact wipe_setAll (fun j hj => h j (by simp [hj])) ((wipe_over (h i (by simp))).trans e)
theorem rs_wipe {K : PySem.W.Frag} {φ : List Addr} {ρ : Rho} {σ : St} {H : Hp} (h : RS K φ ρ σ H) (vs : List Nat) : RS K φ (clr vs ρ) (L2.wipe σ vs) H := by
  induction vs with
  | nil => exact h
  | cons i vs ih =>
    show RS K φ ((clr vs ρ).set i none) ((L2.wipe σ vs).set i none) H
    refine ⟨by simp [ih.len], fun j d e => ?_⟩
    by_cases hj : i = j
    · subst hj
      rw [List.getElem?_set] at e
      simp at e
    · rw [List.getElem?_set_ne hj] at e ⊢
      exact ih.at_ j d e
def Tg.ins : Tg → List Nat → Bool
  | .nm i, vs => vs.contains i
  | .tp is, vs => is.all fun i => vs.contains i
theorem tg_wipe {K : PySem.W.Frag} {t : Tg} {vs : List Nat} (ht : t.ins vs = true) {v : V} {σ : St} {H : Hp} {Q : St → Hp → Prop} (h : gTg K t v (wipe σ vs) H Q) : gTg K t v (wipe σ vs) H (fun σ' H' => wipe σ' vs = wipe σ vs ∧ Q σ' H') := by
  cases t with
  | nm i =>
    have hi : i ∈ vs := by simpa [Tg.ins] using ht
    exact ⟨wipe_set hi, h⟩
  | tp is =>
    obtain ⟨a, xs, e, hs, hl, q⟩ := h
    have hi : ∀ i ∈ is, i ∈ vs := by simpa [Tg.ins] using ht
    exact ⟨a, xs, e, hs, hl, wipe_setAll hi wipe_idem, q⟩
theorem out_noXb {K : PySem.W.Frag} {α β γ δ : Type} {R : Hp → List Addr → α → β → Prop} {R' : Hp → List Addr → γ → δ → Prop} {r : Res α} {f : α → Sto → Res γ} {φ : List Addr} {σ σ' : St} {H : Hp} {Q : δ → Hp → Prop} {Q1 : β → Hp → Prop} (h : outR K G W R' ((noX r).bind f) φ σ H Q)
    (kk : ∀ a S1 φ1 b H1, Ext φ H φ1 H1 → Emb K G φ1 S1 H1 → R H1 φ1 a b → outR K G W R' (f a S1) φ1 σ H1 Q → Q1 b H1) : outR K G W0 R r φ σ' H Q1 := by
  cases r with
  | ok a S => exact fun φ1 b H1 x em rv => kk a S φ1 b H1 x em rv (outR.from x h)
  | exc e S => exact h.elim
  | stuck => exact h
/-- the append to the list at L -/
theorem app_step {K : PySem.W.Frag} {φ : List Addr} {S : Sto} {H : Hp} {L : Nat} {p : Addr} {acc : List D} {y : D} {v : V} (em : Emb K G φ S H) (hp : φ[L]? = some p) (hS : S[L]? = some (.lst false acc)) (rv : RV K H φ y v) :
    ∃ vs, H p = some (.lst vs) ∧ vs.length = acc.length ∧ Ext φ H φ (upd H p (.lst (vs ++ [v]))) ∧ Emb K G φ (S.set L (.lst false (acc ++ [y]))) (upd H p (.lst (vs ++ [v]))) := by
  obtain ⟨vs, e1, rvs⟩ := (em.ob L _ p hS hp).lstM
  have n1 : ∀ xs, HO.lst vs ≠ .tup xs := fun _ z => nomatch z
  have n2 : ∀ ob w, HO.lst vs ≠ .frz ob w := fun _ _ z => nomatch z
  have xa : Ext φ H φ (upd H p (.lst (vs ++ [v]))) := .at e1 n1 n2
  exact ⟨vs, e1, (RVs.length rvs).symm, xa, em.set hS hp e1 n1 n2 rfl (.lst upd_same (RVs.ext xa (RVs.append rvs (.cons rv .nil))))⟩
theorem lc_ok {K : PySem.W.Frag} {mi : MIx} {t : Tg} {tt : MTs} {me : MEx} {own : List Nat} {cw : TI} (hcw : ∀ σ H R, wpI K G W mi σ H R → cw σ H R) (ht : t.ins own = true) (σ : St) (H : Hp) (Q : VK) (h : wpE K G W (mLc mi t tt me own) σ H Q) :
    tLc cw (gTg K t) (wpT K G W0 tt) (wpE K G W0 me) own σ H Q := by
  obtain ⟨φ, ρ, S, em, rs, h⟩ := h
  refine hcw σ H _ ⟨φ, ρ, S, em, rs, ?_⟩
  unfold mLc at h
  cases q : mi ρ S with
  | stuck => rw [q] at h; exact h
  | exc e S' => rw [q] at h; exact h
  | ok it S1 =>
    rw [q] at h
    intro φ1 J H1 x1 em1 hJ p hp
    have xn : Ext φ1 H1 (φ1 ++ [p]) (upd H1 p (.lst [])) := .new hp
    have em2 : Emb K G (φ1 ++ [p]) (S1 ++ [.lst false []]) (upd H1 p (.lst [])) := em1.new hp (.lst upd_same .nil)
    have hL : (φ1 ++ [p])[S1.length]? = some p := by rw [← em1.len]; simp
    have rsw : RS K φ1 (clr own ρ) (L2.wipe σ own) H1 := rs_wipe (rs.ext x1) own
    refine ⟨fun i m H => ∃ φ S, Ext (φ1 ++ [p]) (upd H1 p (.lst [])) φ H ∧ Emb K G φ S H ∧ outR K G W (rE K) (lcGo it t tt me (clr own ρ) S1.length m i S) φ σ H Q, ⟨it.fuel, _, _, .refl, em2, outR.from (x1.trans xn) h⟩, ?_⟩
    rintro i m H2 ⟨φ2, S2, x2, em3, h2⟩
    have x12 : Ext φ1 H1 φ2 H2 := xn.trans x2
    have hL2 := pre_get x2.1 hL
    cases m with
    | zero => exact h2.elim
    | succ n =>
      have hj := hJ i φ2 S2 H2 x12 em3
      unfold lcGo at h2
      cases hget : it.get i S2 with
      | none => rw [hget] at h2; exact h2.elim
      | some od =>
        cases od with
        | none => rw [hget] at h2 hj; exact .inl ⟨hj, outR.ok (R := rE K) h2 em3 (.loc hL2)⟩
        | some dv =>
          rw [hget] at h2 hj
          refine .inr ⟨hj.1, fun H' => ∃ φ S, Ext (φ1 ++ [p]) (upd H1 p (.lst [])) φ H' ∧ Emb K G φ S H' ∧ outR K G W (rE K) (lcGo it t tt me (clr own ρ) S1.length n (i + 1) S) φ σ H' Q, fun H' z => ⟨n, Nat.lt_succ_self n, z⟩, fun y H3 hy => ?_⟩
          obtain ⟨x3, em4, rv⟩ := hj.2 y H3 hy
          cases htg : tgM t dv (clr own ρ) S2 with
          | none => simp only [htg] at h2; exact h2.elim
          | some ρ3 =>
            simp only [htg] at h2
            refine tg_wipe ht (tg_ok em4 (rsw.ext (x12.trans x3)) rv htg fun σ3 rs3 => ?_)
            refine ⟨φ2, ρ3, S2, em4, rs3, out_noXb (outR.from x3 h2) fun b S4 φ4 b' H4 x4 em5 rb h4 => ?_⟩
            cases (show b = b' from rb)
            cases b with
            | false => exact ⟨φ4, S4, (x2.trans x3).trans x4, em5, h4⟩
            | true =>
              refine ⟨φ4, ρ3, S4, em5, rs3.ext x4, out_noXb (show outR K G W (rE K) _ φ4 σ H4 Q from h4) fun yd S5 φ5 yv H5 x5 em6 ry h5 => ?_⟩
              have xx : Ext (φ1 ++ [p]) (upd H1 p (.lst [])) φ5 H5 := ((x2.trans x3).trans x4).trans x5
              have hL5 := pre_get xx.1 hL
              split at h5
              · rename_i acc eS
                split at h5
                · rename_i hlt
                  obtain ⟨vs, e1, e2, xa, em7⟩ := app_step em6 hL5 eS ry
                  exact ⟨vs, e1, by rw [e2]; exact hlt, φ5, _, xx.trans xa, em7, outR.from xa h5⟩
                · exact h5.elim
              · exact h5.elim
/-- a block's context -/
theorem DX.blk (d : DX X G W k) (s : Shared) (H : Hp) (scope : Scope) (ce : Env) (fp : List Addr) : DX (X.blk s H scope ce fp) G W0 k :=
  ⟨d.calm, takes0, PassesOwn.never, ⟨d.hr.hd, d.hr.dp, d.hr.un⟩, d.nd⟩
theorem d_lc {elt tg iter : Expr} {ifs : List Expr} {scope : Scope} {own : List (Str × Nat)} {pos : Pos} {mi : MIx} {t : Tg} {tt : MTs} {me : MEx} (d : DX X G W k) (hi : PI X tg iter (wpI X.K G W mi)) (ok : blkC X.N X.env.scope scope own = true)
    (hg : ∀ (s : Shared) (H : Hp) (C : Addr) (cl : List (Str × Addr)) (fp : List Addr), DX (X.blk s H scope (compEnvC scope cl C X.env) fp) G W0 k → PG (X.blk s H scope (compEnvC scope cl C X.env) fp) tg (gTg X.K t))
    (htt : ∀ (s : Shared) (H : Hp) (C : Addr) (cl : List (Str × Addr)) (fp : List Addr), DX (X.blk s H scope (compEnvC scope cl C X.env) fp) G W0 k → PTs (X.blk s H scope (compEnvC scope cl C X.env) fp) ifs (wpT X.K G W0 tt))
    (he : ∀ (s : Shared) (H : Hp) (C : Addr) (cl : List (Str × Addr)) (fp : List Addr), DX (X.blk s H scope (compEnvC scope cl C X.env) fp) G W0 k → PE (X.blk s H scope (compEnvC scope cl C X.env) fp) elt (wpE X.K G W0 me))
    (hin : t.ins (own.map (·.2)) = true := by decide) (hs : ∀ x, foldedSetIterable iter X.env x = pure x := by intro _; rfl) :
    PE X (.ListComp elt [⟨tg, iter, ifs, 0⟩] scope pos) (wpE X.K G W (mLc mi t tt me (own.map (·.2)))) :=
  pe_conv (pe_lc d.calm d.nd hi (blkOk_by ok) (fun s H C cl fp => hg s H C cl fp (d.blk ..)) (fun s H C cl fp => htt s H C cl fp (d.blk ..)) (fun s H C cl fp => he s H C cl fp (d.blk ..)) hs) (lc_ok (fun _ _ _ z => z) hin)
/-- name = [..] -/
theorem s_setLc {i : Nat} {y : Str} {py : Pos} {elt tg iter : Expr} {ifs : List Expr} {scope : Scope} {own : List (Str × Nat)} {pos spos : Pos} {mi : MIx} {t : Tg} {tt : MTs} {me : MEx} (d : DX X G W k) (hi : PI X tg iter (wpI X.K G W mi)) (ok : blkC X.N X.env.scope scope own = true)
    (hsw : swapsWith (.ListComp elt [⟨tg, iter, ifs, 0⟩] scope pos) (some (.Name y py)) spos.line X.env = pure true)
    (hg : ∀ (s : Shared) (H : Hp) (C : Addr) (cl : List (Str × Addr)) (fp : List Addr), DX (X.blk s H scope (compEnvC scope cl C X.env) fp) G W0 k → PG (X.blk s H scope (compEnvC scope cl C X.env) fp) tg (gTg X.K t))
    (htt : ∀ (s : Shared) (H : Hp) (C : Addr) (cl : List (Str × Addr)) (fp : List Addr), DX (X.blk s H scope (compEnvC scope cl C X.env) fp) G W0 k → PTs (X.blk s H scope (compEnvC scope cl C X.env) fp) ifs (wpT X.K G W0 tt))
    (he : ∀ (s : Shared) (H : Hp) (C : Addr) (cl : List (Str × Addr)) (fp : List Addr), DX (X.blk s H scope (compEnvC scope cl C X.env) fp) G W0 k → PE (X.blk s H scope (compEnvC scope cl C X.env) fp) elt (wpE X.K G W0 me))
    (hin : t.ins (own.map (·.2)) = true := by decide) (hy : X.N[i]? = some y := by rfl) (hyl : X.env.scope.names.lookup y = some .local := by rfl) (hs : ∀ x, foldedSetIterable iter X.env x = pure x := by intro _; rfl) :
    PS X (.Assign [.Name y py] (.ListComp elt [⟨tg, iter, ifs, 0⟩] scope pos) spos) (wpS X.K G W (sSet i (mLc mi t tt me (own.map (·.2))))) := by
  refine ps_conv (ps_setLc (i := i) d.calm d.nd hy hyl hsw hi (blkOk_by ok) (fun s H C cl fp => hg s H C cl fp (d.blk ..)) (fun s H C cl fp => htt s H C cl fp (d.blk ..)) (fun s H C cl fp => he s H C cl fp (d.blk ..)) hs) ?_
  rintro D σ H ⟨φ, ρ, S, em, rs, h⟩
  refine lc_ok (W := W) (fun _ _ _ z => z) hin σ H _ ⟨φ, ρ, S, em, rs, outR.st rs h fun v S1 φ1 y H1 x em1 rv h1 => ?_⟩
  exact h1 φ1 _ H1 .refl em1 ((rs.ext x).set i rv)
theorem ts_nil : PTs X [] (wpT X.K G W tYesM) := ⟨fun pins s σ H Q I ⟨φ, ρ, S, em, rs, h⟩ => pts_nil.run pins s σ H Q I (outR.ok (R := rT) h em rfl)⟩
theorem ts_one {c : Expr} {m : MTs} (h : PT X c (wpT X.K G W m)) : PTs X [c] (wpT X.K G W m) := pts_one h
end
end MP

set_option Elab.async false
set_option linter.all false
set_option maxRecDepth 100000
set_option maxHeartbeats 2000000
namespace MP
open PySem L2
section
variable {X : Cx} {G : Ga} {W : WX} {k : Nat}
/-! ### built-in functions by their values -/
def CallS (K : PySem.W.Frag) (G : Ga) (W : WX) (f : List D → Sto → Res D) (r : List V → Hp → VK → Prop) : Prop :=
  ∀ φ S σ H ds vs Q, Emb K G φ S H → RVs K H φ ds vs → outR K G W (rE K) (f ds S) φ σ H Q → r vs H Q
def mCB (f : List D → Sto → Res D) (ms : MAr) : MEx := fun ρ S => (ms ρ S).bind f
theorem cb {K : PySem.W.Frag} {f : List D → Sto → Res D} {r : List V → Hp → VK → Prop} {ms : MAr} (hs : CallS K G W f r) (σ : St) (H : Hp) (Q : VK) (h : wpE K G W (mCB f ms) σ H Q) : tCB r (wpA K G W ms) σ H Q := by
  obtain ⟨φ, ρ, S, em, rs, h⟩ := h
  refine ⟨φ, ρ, S, em, rs, h.bind fun ds S1 φ1 vs H1 x em1 rv h1 => ?_⟩
  exact hs φ1 S1 σ H1 ds vs Q em1 rv h1
theorem d_callB {x : Str} {id : String} {e : Expr} {es : List Expr} {f : List D → Sto → Res D} {r : List V → Hp → VK → Prop} {ms : MAr} {p pos : Pos} (hc : CallR X (.builtin id) r) (hs : CallS X.K G W f r) (hm : X.mg x = none) (ha : PA X (e :: es) (wpA X.K G W ms)) (hv : bootBuiltins x = some (.builtin id) := by decide +kernel) (hg : Gl X x := by rfl)
    (hn : x ≠ "__name__" := by decide) (hdb : (x == ("__debug__" : Str)) = false := by decide)
    (he : starEach (e :: es) X.env = (false, eval e X.env) :: starEach es X.env := by rfl) (hpl : (backTo pos (starEach es X.env)).any (·.1) = false := by rfl) : PE X (.Call (.Name x p) (e :: es) [] pos) (wpE X.K G W (mCB f ms)) :=
  pe_conv (pe_callB hc hg hm hv ha hn hdb he hpl) (cb hs)
theorem d_callT {x : Str} {T : String} {e : Expr} {es : List Expr} {f : List D → Sto → Res D} {r : List V → Hp → VK → Prop} {ms : MAr} {p pos : Pos} (hc : CallR X (.type T) r) (hs : CallS X.K G W f r) (hm : X.mg x = none) (ha : PA X (e :: es) (wpA X.K G W ms)) (hv : bootBuiltins x = some (.type T) := by decide +kernel) (hg : Gl X x := by rfl)
    (hn : x ≠ "__name__" := by decide) (hdb : (x == ("__debug__" : Str)) = false := by decide)
    (he : starEach (e :: es) X.env = (false, eval e X.env) :: starEach es X.env := by rfl) (hpl : (backTo pos (starEach es X.env)).any (·.1) = false := by rfl) : PE X (.Call (.Name x p) (e :: es) [] pos) (wpE X.K G W (mCB f ms)) :=
  pe_conv (pe_callTy hc hg hm hv ha hn hdb he hpl) (cb hs)
def cLen (ds : List D) (S : Sto) : Res D := match ds with
  | [.tup xs] => .ok (.int xs.length) S
  | [.str z] => if z.length ≤ sizeLine then .ok (.int z.length) S else .stuck
  | [.loc l] => match S[l]? with
    | some (.lst _ xs) => .ok (.int xs.length) S
    | some (.dct false kvs) => .ok (.int kvs.length) S
    | _ => .stuck
  | _ => .stuck
def rLenU (K : PySem.W.Frag) : List V → Hp → VK → Prop := fun xs H Q => (∃ p ys, xs = [.ref p] ∧ (SqL K H p ys ∨ SqT K H p ys) ∧ Q (.int ys.length) H) ∨ (∃ z, xs = [.str z] ∧ z.length ≤ sizeLine ∧ Q (.int z.length) H) ∨ (∃ a kvs, xs = [V.ref a] ∧ H a = some (.dK kvs) ∧ Q (.int kvs.length) H)
theorem cr_lenU : CallR X (.builtin "len") (rLenU X.K) := call_len_seq.or (call_len_str.or call_lenD)
theorem s_len {K : PySem.W.Frag} : CallS K G W cLen (rLenU K) := by
  intro φ S σ H ds vs Q em r h
  unfold cLen at h
  split at h
  · cases r with
    | cons a b =>
      cases b
      cases a with
      | tup s q => exact .inl ⟨_, _, rfl, .inr s, by rw [← RVs.length q]; exact outR.ok (R := rE K) h em .int⟩
  · split at h
    · rename_i hl
      cases r with
      | cons a b => cases b; cases a; exact .inr (.inl ⟨_, rfl, hl, outR.ok (R := rE K) h em .int⟩)
    · exact h.elim
  · cases r with
    | cons a b =>
      cases b
      split at h
      · rename_i fz xs es
        obtain ⟨p, rfl, _, ro⟩ := em.at_loc es a
        obtain ⟨ws, sq, rv⟩ := ro.sql
        exact .inl ⟨p, ws, rfl, .inl sq, by rw [← RVs.length rv]; exact outR.ok (R := rE K) h em .int⟩
      · rename_i kvs es
        obtain ⟨p, rfl, _, ro⟩ := em.at_loc es a
        cases ro with
        | dct e1 rk => exact .inr (.inr ⟨p, _, rfl, e1, by rw [← rk.length]; exact outR.ok (R := rE K) h em .int⟩)
      · exact h.elim
  · exact h.elim
def cAbs (ds : List D) (S : Sto) : Res D := match ds with
  | [.int i] => .ok (.int (if i < 0 then -i else i)) S
  | _ => .stuck
theorem s_abs {K : PySem.W.Frag} : CallS K G W cAbs (fun xs H Q => ∃ i, xs = [.int i] ∧ Q (.int (if i < 0 then -i else i)) H) := by
  intro φ S σ H ds vs Q em r h
  unfold cAbs at h
  split at h
  · cases r with
    | cons a b => cases b; cases a; exact ⟨_, rfl, outR.ok (R := rE K) h em .int⟩
  · exact h.elim
def cMin (ds : List D) (S : Sto) : Res D := match ds with
  | [.int i, .int j] => .ok (.int (if j < i then j else i)) S
  | _ => .stuck
def cMax (ds : List D) (S : Sto) : Res D := match ds with
  | [.int i, .int j] => .ok (.int (if j > i then j else i)) S
  | _ => .stuck
theorem s_min {K : PySem.W.Frag} : CallS K G W cMin (fun xs H Q => ∃ i j, xs = [.int i, .int j] ∧ Q (.int (if j < i then j else i)) H) := by
  intro φ S σ H ds vs Q em r h
  unfold cMin at h
  split at h
  · cases r with
    | cons a b => cases b with
      | cons a' b => cases b; cases a; cases a'; exact ⟨_, _, rfl, outR.ok (R := rE K) h em .int⟩
  · exact h.elim
theorem s_max {K : PySem.W.Frag} : CallS K G W cMax (fun xs H Q => ∃ i j, xs = [.int i, .int j] ∧ Q (.int (if j > i then j else i)) H) := by
  intro φ S σ H ds vs Q em r h
  unfold cMax at h
  split at h
  · cases r with
    | cons a b => cases b with
      | cons a' b => cases b; cases a; cases a'; exact ⟨_, _, rfl, outR.ok (R := rE K) h em .int⟩
  · exact h.elim
def cInt (ds : List D) (S : Sto) : Res D := match ds with
  | [.int i] => .ok (.int i) S
  | [.bl b] => .ok (.int (if b then 1 else 0)) S
  | _ => .stuck
theorem s_intc {K : PySem.W.Frag} : CallS K G W cInt (fun xs H Q => (∃ i, xs = [.int i] ∧ Q (.int i) H) ∨ ∃ k, xs = [.bl k] ∧ Q (.int (if k then 1 else 0)) H) := by
  intro φ S σ H ds vs Q em r h
  unfold cInt at h
  split at h
  · cases r with
    | cons a b => cases b; cases a; exact .inl ⟨_, rfl, outR.ok (R := rE K) h em .int⟩
  · cases r with
    | cons a b => cases b; cases a; exact .inr ⟨_, rfl, outR.ok (R := rE K) h em .int⟩
  · exact h.elim
def cList (ds : List D) (S : Sto) : Res D := match ds with
  | [d] => match items S d with
    | some xs => newO (.lst false xs) S
    | none => .stuck
  | _ => .stuck
theorem s_list {K : PySem.W.Frag} : CallS K G W cList (fun xs H Q => ∃ p ys, xs = [.ref p] ∧ (SqL K H p ys ∨ SqT K H p ys) ∧ ∀ l, H l = none → Q (.ref l) (upd H l (.lst ys))) := by
  intro φ S σ H ds vs Q em r h
  unfold cList at h
  split at h
  · split at h
    · rename_i xs e
      cases r with
      | cons a b =>
        cases b
        obtain ⟨p, ws, rfl, hs, rv⟩ := items_ok em a e
        exact ⟨p, ws, rfl, hs, fun l hl => h.newL em rv hl⟩
    · exact h.elim
  · exact h.elim
def cTuple (ds : List D) (S : Sto) : Res D := match ds with
  | [d] => match items S d with
    | some xs => .ok (.tup xs) S
    | none => .stuck
  | _ => .stuck
theorem s_tuple {K : PySem.W.Frag} : CallS K G W cTuple (fun xs H Q => ∃ p ys, xs = [.ref p] ∧ ((SqL K H p ys ∧ ∀ l, H l = none → Q (.ref l) (upd H l (.tup ys))) ∨ (SqT K H p ys ∧ Q (.ref p) H))) := by
  intro φ S σ H ds vs Q em r h
  unfold cTuple at h
  split at h
  · split at h
    · rename_i xs e
      cases r with
      | cons a b =>
        cases b
        obtain ⟨p, ws, rfl, hs, rv⟩ := items_ok em a e
        refine ⟨p, ws, rfl, ?_⟩
        rcases hs with hs | hs
        · exact .inl ⟨hs, fun l hl => h φ _ _ (.other hl) (em.other hl) (.tup (.of upd_same) (RVs.ext (.other hl) rv))⟩
        · exact .inr ⟨hs, outR.ok (R := rE K) h em (.tup hs rv)⟩
    · exact h.elim
  · exact h.elim
def cStr (ds : List D) (S : Sto) : Res D := match ds with
  | [.int i] => if i.natAbs.log2 < 1920 then .ok (.str (toString i)) S else .stuck
  | _ => .stuck
theorem s_strc {K : PySem.W.Frag} : CallS K G W cStr (fun xs H Q => ∃ i, xs = [.int i] ∧ i.natAbs.log2 < 1920 ∧ Q (.str (toString i)) H) := by
  intro φ S σ H ds vs Q em r h
  unfold cStr at h
  split at h
  · split at h
    · rename_i hl
      cases r with
      | cons a b => cases b; cases a; exact ⟨_, rfl, hl, outR.ok (R := rE K) h em .str⟩
    · exact h.elim
  · exact h.elim
/-! ### isinstance -/
def D.ty (d : D) (S : Sto) : Option String := match d with
  | .non => some "NoneType" | .bl _ => some "bool" | .int _ => some "int" | .str _ => some "str" | .tup _ => some "tuple"
  | .loc l => match S[l]? with
    | some (.lst _ _) => some "list"
    | some (.dct _ _) => some "dict"
    | _ => none
def isT (a b : String) : Bool := a == b || (a == "bool" && b == "int")
theorem ty_ok {K : PySem.W.Frag} {φ : List Addr} {S : Sto} {H : Hp} {d : D} {v : V} {t : String} (em : Emb K G φ S H) (r : RV K H φ d v) (h : d.ty S = some t) : TyX K H v (.type t) := by
  unfold D.ty at h
  split at h
  · cases r; cases h; exact .base .non
  · cases r; cases h; exact .base (.bl _)
  · cases r; cases h; exact .base (.int _)
  · cases r; cases h; exact .base (.str _)
  · cases r with
    | tup s q =>
      cases h
      rcases s with (s | ⟨o, s⟩) | ⟨o, its, n, h1, h2, _⟩
      · exact .base (.tup s)
      · exact .fTuple s
      · exact .kTuple h1 h2
  · split at h
    · rename_i fz xs es
      cases h
      obtain ⟨a, rfl, _, ro⟩ := em.at_loc es r
      cases ro with
      | lst e1 _ => exact .base (.lst e1)
      | lstK e1 _ => obtain ⟨o, its, n, h1, h2, _⟩ := e1; exact .kList h1 h2
      | lstF e1 _ => exact .base (.frz e1)
    · rename_i fz xs es
      cases h
      obtain ⟨a, rfl, _, ro⟩ := em.at_loc es r
      cases ro with
      | dct e1 _ => exact .base (.dK e1)
      | dctF e1 _ => exact .fDict e1
    · cases h
def isiR (T : String) (d : D) (S : Sto) : Res D := match d.ty S with
  | some t => .ok (.bl (isT t T)) S
  | none => .stuck
def mIsi (T : String) (m : MEx) : MEx := fun ρ S => (m ρ S).bind (isiR T)
theorem d_isi (T : String) {x : Str} {e : Expr} {m : MEx} {p p2 pos : Pos} (hmi : X.mg "isinstance" = none) (hm : X.mg x = none) (he : PE X e (wpE X.K G W m)) (hk : ∀ a, a ∈ ["NoneType", "bool", "int", "str", "tuple", "list", "dict"] → kitB a T = some (isT a T) := by decide +kernel)
    (hv : bootBuiltins x = some (.type T) := by decide +kernel) (hgi : Gl X "isinstance" := by rfl) (hg : Gl X x := by rfl) (hn : x ≠ "__name__" := by decide) (hdb : (x == ("__debug__" : Str)) = false := by decide)
    (hs : starEach (e :: [.Name x p2]) X.env = (false, eval e X.env) :: starEach [.Name x p2] X.env := by rfl) (hpl : (backTo pos (starEach [.Name x p2] X.env)).any (·.1) = false := by rfl) : PE X (.Call (.Name "isinstance" p) [e, .Name x p2] [] pos) (wpE X.K G W (mIsi T m)) := by
  refine pe_conv (pe_callB call_isi hgi hmi (by decide +kernel) (pa_cons he (pa_cons (pe_bltn (v := .ty T) hg hm hv rfl hn hdb) pa_nil) hs) (by decide) (by decide) hs hpl) ?_
  rintro σ H Q ⟨φ, ρ, S, em, rs, h⟩
  refine ⟨φ, ρ, S, em, rs, h.bind fun d S1 φ1 v H1 x1 em1 rv h1 => ?_⟩
  unfold isiR at h1
  split at h1
  · rename_i t ht
    have hin : t ∈ ["NoneType", "bool", "int", "str", "tuple", "list", "dict"] := by
      unfold D.ty at ht
      split at ht <;> first | (cases ht; decide) | (split at ht <;> first | (cases ht; decide) | cases ht)
    exact ⟨v, .ty T, .type t, .type T, isT t T, rfl, .ty T, ty_ok em1 rv ht, kit_ty (hk t hin), outR.ok (R := rE X.K) h1 em1 .bl⟩
  · exact h1.elim
/-! ### methods of lists -/
def MetS (K : PySem.W.Frag) (G : Ga) (W : WX) (f : D → List D → Sto → Res D) (r : V → List V → Hp → VK → Prop) : Prop :=
  ∀ φ S σ H d ds v vs Q, Emb K G φ S H → RV K H φ d v → RVs K H φ ds vs → outR K G W (rE K) (f d ds S) φ σ H Q → r v vs H Q
def isL (d : D) (S : Sto) : Bool := match d with
  | .loc l => match S[l]? with
    | some (.lst _ _) => true
    | _ => false
  | _ => false
def mBM (p : D → Sto → Bool) (f : D → List D → Sto → Res D) (mo : MEx) (ms : MAr) : MEx := fun ρ S => (mo ρ S).bind fun d S1 => if p d S1 = true then (ms ρ S1).bind fun ds S2 => f d ds S2 else .stuck
theorem tyL {K : PySem.W.Frag} {φ : List Addr} {S : Sto} {H : Hp} {d : D} {v : V} (em : Emb K G φ S H) (r : RV K H φ d v) (h : isL d S = true) : tyV K "list" v H := by
  unfold isL at h
  split at h
  · split at h
    · rename_i l fz xs es
      obtain ⟨a, rfl, _, ro⟩ := em.at_loc es r
      obtain ⟨vs, sq, _⟩ := ro.sql
      exact .inl ⟨rfl, vs, sq⟩
    · cases h
  · cases h
theorem d_bm {T id : String} {name : Str} {o e : Expr} {es : List Expr} {f : D → List D → Sto → Res D} {r : V → List V → Hp → VK → Prop} {pp : D → Sto → Bool} {mo : MEx} {ms : MAr} {apos cpos : Pos} (pa : PlainAttrs T) (slot : Slot T name id) (hty : typeOf (.builtin id) = pure (.type "method_descriptor")) (hm : MtR X id r) (hs : MetS X.K G W f r)
    (htv : ∀ φ S H d v, Emb X.K G φ S H → RV X.K H φ d v → pp d S = true → tyV X.K T v H) (ho : PE X o (wpE X.K G W mo)) (ha : PA X (e :: es) (wpA X.K G W ms))
    (hbase : attributeBase o name X.env (eval o X.env) = eval o X.env := by rfl)
    (hfew : ((backTo cpos (starEach (e :: es) X.env)).all (fun x => !x.1) && (backToKw cpos (keywordEach [] X.env)).all (fun x => x.1.isSome)
      && decide ((e :: es).length + ([] : List Keyword).length + (if ([] : List Keyword).isEmpty then 0 else 1) < 30)) = true := by rfl)
    (hline : (apos.endLine == cpos.line) = true := by rfl) (hst : starEach (e :: es) X.env = (false, eval e X.env) :: starEach es X.env := by rfl) (hplain : (backTo cpos (starEach es X.env)).any (·.1) = false := by rfl) :
    PE X (.Call (.Attribute o name apos) (e :: es) [] cpos) (wpE X.K G W (mBM pp f mo ms)) := by
  refine pe_conv (pe_bm pa slot hty hm ho ha hbase hfew hline hst hplain) ?_
  rintro σ H Q ⟨φ, ρ, S, em, rs, h⟩
  refine ⟨φ, ρ, S, em, rs, h.bind fun d S1 φ1 v H1 x1 em1 rv h1 => ?_⟩
  split at h1
  · rename_i hp
    refine ⟨htv _ _ _ _ _ em1 rv hp, φ1, ρ, S1, em1, rs.ext x1, h1.bind fun ds S2 φ2 vs H2 x2 em2 rvs h2 => ?_⟩
    exact hs φ2 S2 σ H2 d ds v vs Q em2 (RV.ext x2 rv) rvs h2
  · exact h1.elim
/-- a list is rewritten -/
theorem lst_write {K : PySem.W.Frag} {φ : List Addr} {S : Sto} {H : Hp} {l : Nat} {a : Addr} {xs ys : List D} {vs ws : List V} (em : Emb K G φ S H) (es : S[l]? = some (.lst false xs)) (ha : φ[l]? = some a) (e1 : H a = some (.lst vs)) (rv : RVs K H φ ys ws) :
    Ext φ H φ (upd H a (.lst ws)) ∧ Emb K G φ (S.set l (.lst false ys)) (upd H a (.lst ws)) := by
  have n1 : ∀ xs, HO.lst vs ≠ .tup xs := fun _ z => nomatch z
  have n2 : ∀ ob w, HO.lst vs ≠ .frz ob w := fun _ _ z => nomatch z
  have xa : Ext φ H φ (upd H a (.lst ws)) := .at e1 n1 n2
  exact ⟨xa, em.set es ha e1 n1 n2 rfl (.lst upd_same (RVs.ext xa rv))⟩
def lAppend (d : D) (ds : List D) (S : Sto) : Res D := match d, ds with
  | .loc l, [y] => match S[l]? with
    | some (.lst false xs) => if xs.length < sizeLine then .ok .non (S.set l (.lst false (xs ++ [y]))) else .stuck
    | _ => .stuck
  | _, _ => .stuck
theorem s_append {K : PySem.W.Frag} : MetS K G W lAppend rAppend := by
  intro φ S σ H d ds v vs Q em r rs h
  unfold lAppend at h
  split at h
  · split at h
    · rename_i l y xs es
      split at h
      · rename_i hl
        cases rs with
        | @cons _ yv _ _ ry rn =>
          cases rn
          obtain ⟨a, rfl, ha, ro⟩ := em.at_loc es r
          obtain ⟨ws, e1, rv⟩ := ro.lstM
          obtain ⟨xa, em2⟩ := lst_write em es ha e1 (RVs.append rv (.cons ry .nil))
          exact ⟨a, ws, yv, rfl, rfl, e1, by rw [← RVs.length rv]; exact hl, h φ .non _ xa em2 .non⟩
      · exact h.elim
    · exact h.elim
  · exact h.elim
/-- extend, the other list a tracked one -/
def lExtend (d : D) (ds : List D) (S : Sto) : Res D := match d, ds with
  | .loc l, [.loc m] => match S[l]?, S[m]? with
    | some (.lst false xs), some (.lst false ys) => if xs.length + ys.length ≤ sizeLine then .ok .non (S.set l (.lst false (xs ++ ys))) else .stuck
    | _, _ => .stuck
  | _, _ => .stuck
theorem s_extend {K : PySem.W.Frag} : MetS K G W lExtend rExtend := by
  intro φ S σ H d ds v vs Q em r rs h
  unfold lExtend at h
  split at h
  · split at h
    · rename_i l m xs ys es es2
      split at h
      · rename_i hl
        cases rs with
        | @cons _ yv _ _ ry rn =>
          cases rn
          obtain ⟨a, rfl, ha, ro⟩ := em.at_loc es r
          obtain ⟨b, rfl, hb, ro2⟩ := em.at_loc es2 ry
          obtain ⟨ws, e1, rv⟩ := ro.lstM
          obtain ⟨zs, e2, rv2⟩ := ro2.lstM
          obtain ⟨xa, em2⟩ := lst_write em es ha e1 (RVs.append rv rv2)
          exact ⟨a, b, ws, zs, rfl, rfl, e1, e2, by rw [← RVs.length rv, ← RVs.length rv2]; exact hl, h φ .non _ xa em2 .non⟩
      · exact h.elim
    · exact h.elim
  · exact h.elim
theorem RVs.erase {K : PySem.W.Frag} {H : Hp} {φ : List Addr} : ∀ {ds : List D} {vs : List V} (i : Nat), RVs K H φ ds vs → RVs K H φ (ds.eraseIdx i) (vs.eraseIdx i)
  | _, _, _, .nil => .nil
  | _, _, 0, .cons _ b => b
  | _, _, i + 1, .cons a b => .cons a (RVs.erase i b)
def lPopAt (d : D) (ds : List D) (S : Sto) : Res D := match d, ds with
  | .loc l, [.int i] => match S[l]? with
    | some (.lst false xs) => if -(2 ^ 63) ≤ i ∧ i < 2 ^ 63 then match seqIndex? i xs.length with
      | some j => match xs[j]? with
        | some y => .ok y (S.set l (.lst false (xs.eraseIdx j)))
        | none => .stuck
      | none => .stuck
      else .stuck
    | _ => .stuck
  | _, _ => .stuck
theorem s_popAt {K : PySem.W.Frag} : MetS K G W lPopAt rPopAt := by
  intro φ S σ H d ds v vs Q em r rs h
  unfold lPopAt at h
  split at h
  · split at h
    · rename_i l i xs es
      split at h
      · rename_i hi
        split at h
        · rename_i j hj
          split at h
          · rename_i y hy
            cases rs with
            | cons ry rn =>
              cases rn
              cases ry
              obtain ⟨a, rfl, ha, ro⟩ := em.at_loc es r
              obtain ⟨ws, e1, rv⟩ := ro.lstM
              obtain ⟨w, ew, rw'⟩ := RVs.get rv hy
              obtain ⟨xa, em2⟩ := lst_write em es ha e1 (RVs.erase j rv)
              exact ⟨a, ws, _, j, w, rfl, rfl, e1, hi.1, hi.2, by rw [← RVs.length rv]; exact hj, ew, h φ w _ xa em2 (RV.ext xa rw')⟩
          · exact h.elim
        · exact h.elim
      · exact h.elim
    · exact h.elim
  · exact h.elim
end
/-! ### the end of a law -/
def scriptS (ns : List Int) : Sto := [.lst true (ns.map .int)]
theorem sp_law {K : PySem.W.Frag} {G : Ga} {mf : MFn} {H : Hp} {a : Addr} {ns : List Int} (hO : Only H) (hS : SqL K H a (ns.map V.int)) (h : ∃ S', mf [.loc 0] (scriptS ns) = .ok (.bl true) S') : SpM K G mf 1 [.ref a] H (fun v _ => v = .bl true) fun _ _ _ => False := by
  obtain ⟨S', e⟩ := h
  have ro : RO K G H [a] (.lst true (ns.map .int)) a := by
    rcases hS with (hS | ⟨o, hS⟩) | hS
    · rcases hO a with z | ⟨o, xs, z⟩
      · rw [z] at hS; cases hS
      · rw [z] at hS; cases hS
    · exact .lstF hS RVs.ints
    · exact .lstK hS RVs.ints
  refine ⟨[a], scriptS ns, [.loc 0], ⟨rfl, fun l l' b e1 e2 => ?_, fun l o b e1 e2 => ?_⟩, .cons (.loc rfl) .nil, rfl, ?_⟩
  · cases l with
    | zero => cases l' with
      | zero => exact .inl rfl
      | succ l' => simp at e2
    | succ l => simp at e1
  · cases l with
    | zero =>
      simp [scriptS] at e1 e2
      subst e1 e2
      exact ro
    | succ l => simp at e2
  · rw [e]
    intro φ' v H' _ _ rv
    cases rv
    rfl
end MP

set_option Elab.async false
set_option linter.all false
set_option maxRecDepth 100000
set_option maxHeartbeats 4000000
namespace MP
open PySem L2
section
variable {X : Cx} {G : Ga} {W : WX} {k : Nat}
/-! ### a def that is read off its class by the class's name -/
structure FnU (P : Program) (w : World) (K : PySem.W.Frag) (mg : Str → Option Value) (base : Heap) (G : Ga) (k : Nat) (c : Cl) (m : Str) (mf : MFn) (n : Nat) : Prop where
  ex : ∃ f fd ps, FnOk P w K mg base (L2.CX P w) k f fd ps (SpM K G mf n) ∧ ClX.CRead K (G.cl c) (.type "type") ∧ PySem.W.findCls K (.ref (G.cl c)) (.type "type") m = some (.val (.ref f)) ∧ mg c.nm = some (.ref (G.cl c)) ∧ PySem.W.keepIn K (.ref f) = true ∧ Binds K fd ps []
def tUCall (C : Addr) (sp : Sp) (E : St → XK) (ta : TE) (t : TA) : TE := fun σ H Q => ta σ H fun x H1 => x = .ref C ∧ t σ H1 fun vs H2 => sp vs H2 Q (E σ)
theorem pe_ucall {CX : CXT} {C f : Addr} {fd : FuncData} {ps : List Str} {sp : Sp} {E : St → XK} {m : Str} {o e : Expr} {es : List Expr} {ta : TE} {t : TA} {apos pos : Pos} {pl : Sem Bool} (he : PE X o ta) (r : ClX.CRead X.K C (.type "type")) (c : PySem.W.findCls X.K (.ref C) (.type "type") m = some (.val (.ref f)))
    (F : FnOk X.prog X.w X.K X.mg X.base CX k f fd ps sp) (hr : Room k X.A) (hk : PySem.W.keepIn X.K (.ref f) = true) (hb : Binds X.K fd ps []) (hx : ∀ σ, PassesAt CX X σ (E σ)) (ha : PA X (e :: es) t)
    (hst : starEach (e :: es) X.env = (false, eval e X.env) :: starEach es X.env := by rfl) (hpl : (backTo pos (starEach es X.env)).any (·.1) = false := by rfl)
    (ht : eval (.Call (.Attribute o m apos) (e :: es) [] pos) X.env = (do
      let ov ← eval o X.env
      standAt apos.atName
      let (f, first) ← holding [ov] (getMethod ov m pl)
      callWith pos f first (backTo pos (starEach (e :: es) X.env)) (backToKw pos (keywordEach [] X.env))) := by rfl) :
    PE X (.Call (.Attribute o m apos) (e :: es) [] pos) (tUCall C sp E ta t) := by
  refine ⟨fun pins s σ H Q I h => ?_⟩
  refine PySem.W.methodCall_KW (pl := pl) (thn (he.run pins s σ H _ I h) fun u s1 ⟨x, H1, I1, rx, ex, q⟩ => ?_) ht
  subst ex
  obtain rfl : u = Value.ref C := rx
  refine PySem.W.method_cls I1.kIn r.ga (PySem.W.cls_value I1.kIn r.rd c rfl ?_)
  have I2 := I1.tok (s1.toks + 1)
  refine PySem.W.callWith_K (h₀ := X.base) I1.ok.mod.kin hk (thn (ha.run pos pins _ σ H1 _ I2 q) fun us s3 ⟨vs, H2, I3, rv, q2⟩ => ⟨I3.kIn, ?_⟩) hst hpl
  exact run_fnS F hr hb (hx σ) I3 rv q2
theorem d_ucall {c : Cl} {m : Str} {e : Expr} {es : List Expr} {j n : Nat} {mf : MFn} {ms : MAr} {p apos pos : Pos} {pl : Sem Bool} (F : FnU X.prog X.w X.K X.mg X.base G j c m mf n) (d : DX X G W k) (ha : PA X (e :: es) (wpA X.K G W ms)) (hj : j ≤ k := by decide) (hg : Gl X c.nm := by rfl)
    (hdb : (c.nm == ("__debug__" : Str)) = false := by decide) (hst : starEach (e :: es) X.env = (false, eval e X.env) :: starEach es X.env := by rfl) (hpl : (backTo pos (starEach es X.env)).any (·.1) = false := by rfl)
    (ht : eval (.Call (.Attribute (.Name c.nm p) m apos) (e :: es) [] pos) X.env = (do
      let ov ← eval (.Name c.nm p) X.env
      standAt apos.atName
      let (f, first) ← holding [ov] (getMethod ov m pl)
      callWith pos f first (backTo pos (starEach (e :: es) X.env)) (backToKw pos (keywordEach [] X.env))) := by rfl) :
    PE X (.Call (.Attribute (.Name c.nm p) m apos) (e :: es) [] pos) (wpE X.K G W (mCall n mf ms)) := by
  obtain ⟨f, fd, ps, hF, hc, hfi, hm, hk, hb⟩ := F.ex
  refine pe_conv (pe_ucall (pl := pl) (pe_glob hg hm (v := .ref (G.cl c)) rfl hdb) hc hfi hF (d.hr.mono hj) hk hb (fun σ => passAt d.tk σ) ha hst hpl ht) ?_
  rintro σ H Q ⟨φ, ρ, S, em, rs, h⟩
  refine ⟨rfl, φ, ρ, S, em, rs, h.bind fun ds S1 φ1 vs H1 x em1 rv h1 => ?_⟩
  split at h1
  · rename_i hl
    exact ⟨φ1, S1, ds, em1, rv, hl, h1.resig fun _ _ _ z => z⟩
  · exact h1.elim
/-! ### methods of lists without arguments -/
def Met0 (K : PySem.W.Frag) (G : Ga) (W : WX) (f : D → Sto → Res D) (r : V → List V → Hp → VK → Prop) : Prop :=
  ∀ φ S σ H d v Q, Emb K G φ S H → RV K H φ d v → outR K G W (rE K) (f d S) φ σ H Q → r v [] H Q
def mBM0 (p : D → Sto → Bool) (f : D → Sto → Res D) (mo : MEx) : MEx := fun ρ S => (mo ρ S).bind fun d S1 => if p d S1 = true then f d S1 else .stuck
theorem d_bm0 {T id : String} {name : Str} {o : Expr} {f : D → Sto → Res D} {r : V → List V → Hp → VK → Prop} {pp : D → Sto → Bool} {mo : MEx} {apos cpos : Pos} (pa : PlainAttrs T) (slot : Slot T name id) (hty : typeOf (.builtin id) = pure (.type "method_descriptor")) (hm : MtR X id r) (hs : Met0 X.K G W f r)
    (htv : ∀ φ S H d v, Emb X.K G φ S H → RV X.K H φ d v → pp d S = true → tyV X.K T v H) (ho : PE X o (wpE X.K G W mo)) (hbase : attributeBase o name X.env (eval o X.env) = eval o X.env := by rfl) (hline : (apos.endLine == cpos.line) = true := by rfl) :
    PE X (.Call (.Attribute o name apos) [] [] cpos) (wpE X.K G W (mBM0 pp f mo)) := by
  refine pe_conv (pe_bm0 pa slot hty hm ho hbase hline) ?_
  rintro σ H Q ⟨φ, ρ, S, em, rs, h⟩
  refine ⟨φ, ρ, S, em, rs, h.bind fun d S1 φ1 v H1 x1 em1 rv h1 => ?_⟩
  split at h1
  · rename_i hp
    exact ⟨htv _ _ _ _ _ em1 rv hp, hs φ1 S1 σ H1 d v Q em1 rv h1⟩
  · exact h1.elim
def lClear (d : D) (S : Sto) : Res D := match d with
  | .loc l => match S[l]? with
    | some (.lst false _) => .ok .non (S.set l (.lst false []))
    | _ => .stuck
  | _ => .stuck
theorem s_clear {K : PySem.W.Frag} : Met0 K G W lClear rClear := by
  intro φ S σ H d v Q em r h
  unfold lClear at h
  split at h
  · split at h
    · rename_i l xs es
      obtain ⟨a, rfl, ha, ro⟩ := em.at_loc es r
      obtain ⟨ws, e1, rv⟩ := ro.lstM
      obtain ⟨xa, em2⟩ := lst_write em es ha e1 (.nil : RVs K H φ [] [])
      exact ⟨a, ws, rfl, rfl, e1, h φ .non _ xa em2 .non⟩
    · exact h.elim
  · exact h.elim
/-! ### isinstance against an own class -/
structure IsO (K : PySem.W.Frag) (mg : Str → Option Value) (G : Ga) (c : Cl) (tab : List (Cl × Bool)) : Prop where
  nm : mg c.nm = some (.ref (G.cl c))
  ty : ∀ t, t ∈ ["NoneType", "bool", "int", "str", "tuple", "list", "dict"] → PySem.W.kitOne K (.type t) (.ref (G.cl c)) = some false
  hn : PySem.W.specialIn K (.builtin "object.__class__") "__get__" = some (some (.builtin "getset_descriptor.__get__"))
  tk : PySem.W.takesIn K (.builtin "object.__class__") = some true
  own : ∀ c' b, (c', b) ∈ tab → PySem.W.kitOne K (.ref (G.cl c')) (.ref (G.cl c)) = some b ∧ Cls K (G.cl c') ∧ PySem.W.findIn K (.ref (G.cl c')) "__class__" = some (some (.builtin "object.__class__")) ∧ PySem.W.mroIn K (G.cl c') (.type "object") = some true
def isoR (tab : List (Cl × Bool)) (d : D) (S : Sto) : Res D := match d.ty S with
  | some _ => .ok (.bl false) S
  | none => match d with
    | .loc l => match S[l]? with
      | some (.ins c _) => match tab.find? (fun x => decide (x.1 = c)) with
        | some x => .ok (.bl x.2) S
        | none => .stuck
      | _ => .stuck
    | _ => .stuck
def mIso (tab : List (Cl × Bool)) (m : MEx) : MEx := fun ρ S => (m ρ S).bind (isoR tab)
theorem ty_in {d : D} {S : Sto} {t : String} (h : d.ty S = some t) : t ∈ ["NoneType", "bool", "int", "str", "tuple", "list", "dict"] := by
  unfold D.ty at h
  split at h <;> first | (cases h; decide) | (split at h <;> first | (cases h; decide) | cases h)
theorem d_iso {c : Cl} {tab : List (Cl × Bool)} {e : Expr} {m : MEx} {p p2 pos : Pos} (hmi : X.mg "isinstance" = none) (io : IsO X.K X.mg G c tab) (he : PE X e (wpE X.K G W m)) (hgi : Gl X "isinstance" := by rfl) (hg : Gl X c.nm := by rfl)
    (hdb : (c.nm == ("__debug__" : Str)) = false := by decide) (hs : starEach (e :: [.Name c.nm p2]) X.env = (false, eval e X.env) :: starEach [.Name c.nm p2] X.env := by rfl) (hpl : (backTo pos (starEach [.Name c.nm p2] X.env)).any (·.1) = false := by rfl) :
    PE X (.Call (.Name "isinstance" p) [e, .Name c.nm p2] [] pos) (wpE X.K G W (mIso tab m)) := by
  refine pe_conv (pe_callB call_isi hgi hmi (by decide +kernel) (pa_cons he (pa_cons (pe_glob (v := .ref (G.cl c)) hg io.nm rfl hdb) pa_nil) hs) (by decide) (by decide) hs hpl) ?_
  rintro σ H Q ⟨φ, ρ, S, em, rs, h⟩
  refine ⟨φ, ρ, S, em, rs, h.bind fun d S1 φ1 v H1 x em1 rv h1 => ?_⟩
  unfold isoR at h1
  split at h1
  · rename_i t ht
    exact ⟨v, .ref (G.cl c), .type t, .ref (G.cl c), false, rfl, .own _, ty_ok em1 rv ht, io.ty t (ty_in ht), outR.ok (R := rE X.K) h1 em1 .bl⟩
  · split at h1
    · split at h1
      · rename_i l c' fs es
        split at h1
        · rename_i y ey
          obtain ⟨c2, b⟩ := y
          have hc : c2 = c' := by
            have z := List.find?_some (p := fun x : Cl × Bool => decide (x.1 = c')) ey
            exact of_decide_eq_true z
          subst hc
          obtain ⟨k1, k2, k3, k4⟩ := io.own c2 b (List.mem_of_find?_eq_some ey)
          obtain ⟨a, rfl, ha, ro⟩ := em1.at_loc es rv
          cases ro with
          | ins e1 rk hh hall =>
            exact ⟨.ref a, .ref (G.cl c), .ref (G.cl c2), .ref (G.cl c), b, rfl, .own _, .base (.ins e1 k2 k3 io.hn io.tk k4), k1, outR.ok (R := rE X.K) h1 em1 .bl⟩
        · exact h1.elim
      · exact h1.elim
    · exact h1.elim
/-! ### a def that calls itself: no depth, no promise -/
theorem ok_never {P : Program} {w : World} {K : PySem.W.Frag} {mg : Str → Option Value} {base : Heap} {k : Nat} {f : Addr} {fd : FuncData} {ps : List Str} {n : Nat} : FnOk P w K mg base (L2.CX P w) k f fd ps (SpM K G (fun _ _ => .stuck) n) :=
  ⟨fun vs H Q E h => by obtain ⟨φ, S, ds, _, _, _, h⟩ := h; exact h.elim, fun A outer s H args us vs Q E _ _ _ _ h => by obtain ⟨φ, S, ds, _, _, _, h⟩ := h; exact h.elim⟩
end
end MP

set_option Elab.async false
set_option linter.all false
set_option maxRecDepth 100000
set_option maxHeartbeats 4000000
namespace MP
open PySem L2
/-! ### the mirrors' steps, one row each (no step looks into what comes behind) -/
section
variable {α : Type} {f : D → D → Sto → Res D} {a b m mo : MEx} {ma mb mc : MTs} {ms : MAr} {ρ ρ' : Rho} {S S' : Sto} {d x y : D} {ds : List D} {e : Ex} {n : Nat} {mf : MFn} {c : Cl} {sa sb : MSt} {is : List Nat} {i : Nat} {t : Tg}
def kVar (o : Option (Option D)) (S : Sto) : Res D := match o with
  | some (some d) => .ok d S
  | _ => .stuck
theorem r_var : mVar i ρ S = kVar ρ[i]? S := by unfold mVar kVar; rfl
theorem kVar_ok : kVar (some (some d)) S = .ok d S := rfl
theorem r_c : mC d ρ S = .ok d S := rfl
def kOpA (r : Res D) (f : D → D → Sto → Res D) (b : MEx) (ρ : Rho) : Res D := r.bind fun x S1 => (b ρ S1).bind fun y S2 => f x y S2
def kOpB (r : Res D) (f : D → D → Sto → Res D) (x : D) : Res D := r.bind fun y S2 => f x y S2
theorem r_op2 : mOp2 f a b ρ S = kOpA (a ρ S) f b ρ := rfl
theorem kOpA_ok : kOpA (.ok x S) f b ρ = kOpB (b ρ S) f x := rfl
theorem kOpA_exc : kOpA (.exc e S) f b ρ = .exc e S := rfl
theorem kOpB_ok : kOpB (.ok y S) f x = f x y S := rfl
theorem kOpB_exc : kOpB (.exc e S) f x = .exc e S := rfl
theorem r_test : mTest m ρ S = (m ρ S).bind asB := rfl
theorem r_asB {k : Bool} : asB (.bl k) S = .ok k S := rfl
def kAnd (r : Res Bool) (b : MTs) (ρ : Rho) : Res Bool := r.bind fun c S1 => if c = true then b ρ S1 else .ok false S1
def kOr (r : Res Bool) (b : MTs) (ρ : Rho) : Res Bool := r.bind fun c S1 => if c = true then .ok true S1 else b ρ S1
def kNot (r : Res Bool) : Res Bool := r.bind fun c S1 => .ok (!c) S1
theorem r_and : tAnd' ma mb ρ S = kAnd (ma ρ S) mb ρ := rfl
theorem r_or : tOr' ma mb ρ S = kOr (ma ρ S) mb ρ := rfl
theorem r_not : tNot' ma ρ S = kNot (ma ρ S) := rfl
theorem kAnd_t : kAnd (.ok true S) mb ρ = mb ρ S := rfl
theorem kAnd_f : kAnd (.ok false S) mb ρ = .ok false S := rfl
theorem kAnd_exc : kAnd (.exc e S) mb ρ = .exc e S := rfl
theorem kOr_t : kOr (.ok true S) mb ρ = .ok true S := rfl
theorem kOr_f : kOr (.ok false S) mb ρ = mb ρ S := rfl
theorem kOr_exc : kOr (.exc e S) mb ρ = .exc e S := rfl
theorem kNot_ok {k : Bool} : kNot (.ok k S) = .ok (!k) S := rfl
theorem kNot_exc : kNot (.exc e S) = .exc e S := rfl
def kMAnd (r : Res D) (b : MEx) (ρ : Rho) : Res D := r.bind fun d S1 => match d with
  | .bl true => b ρ S1
  | .bl false => .ok (.bl false) S1
  | _ => .stuck
def kMOr (r : Res D) (b : MEx) (ρ : Rho) : Res D := r.bind fun d S1 => match d with
  | .bl true => .ok (.bl true) S1
  | .bl false => b ρ S1
  | _ => .stuck
def kMNot (r : Res D) : Res D := r.bind fun d S1 => match d with
  | .bl b => .ok (.bl (!b)) S1
  | _ => .stuck
theorem r_mand : mAnd a b ρ S = kMAnd (a ρ S) b ρ := rfl
theorem r_mor : mOr a b ρ S = kMOr (a ρ S) b ρ := rfl
theorem r_mnot : mNot a ρ S = kMNot (a ρ S) := rfl
theorem kMAnd_t : kMAnd (.ok (.bl true) S) b ρ = b ρ S := rfl
theorem kMAnd_f : kMAnd (.ok (.bl false) S) b ρ = .ok (.bl false) S := rfl
theorem kMOr_t : kMOr (.ok (.bl true) S) b ρ = .ok (.bl true) S := rfl
theorem kMOr_f : kMOr (.ok (.bl false) S) b ρ = b ρ S := rfl
theorem kMNot_ok {k : Bool} : kMNot (.ok (.bl k) S) = .ok (.bl (!k)) S := rfl
def kIfE (r : Res Bool) (a b : MEx) (ρ : Rho) : Res D := r.bind fun t S1 => if t = true then a ρ S1 else b ρ S1
theorem r_ife : mIfE mc a b ρ S = kIfE (mc ρ S) a b ρ := rfl
theorem kIfE_t : kIfE (.ok true S) a b ρ = a ρ S := rfl
theorem kIfE_f : kIfE (.ok false S) a b ρ = b ρ S := rfl
theorem kIfE_exc : kIfE (.exc e S) a b ρ = .exc e S := rfl
theorem r_anil : aNil ρ S = .ok [] S := rfl
def kArg (r : Res D) (ms : MAr) (ρ : Rho) : Res (List D) := r.bind fun d S1 => (ms ρ S1).bind fun ds S2 => .ok (d :: ds) S2
def kArgs (r : Res (List D)) (d : D) : Res (List D) := r.bind fun ds S2 => .ok (d :: ds) S2
theorem r_acons : aCons a ms ρ S = kArg (a ρ S) ms ρ := rfl
theorem kArg_ok : kArg (.ok d S) ms ρ = kArgs (ms ρ S) d := rfl
theorem kArg_exc : kArg (.exc e S) ms ρ = .exc e S := rfl
theorem kArgs_ok : kArgs (.ok ds S) d = .ok (d :: ds) S := rfl
theorem kArgs_exc : kArgs (.exc e S) d = .exc e S := rfl
theorem r_tup : mTup ms ρ S = (ms ρ S).bind tupD := rfl
theorem r_lst : mLst ms ρ S = (ms ρ S).bind lstD := rfl
theorem r_fld {f : Fl} : mFld f a ρ S = (a ρ S).bind (getF f) := rfl
def kCall (r : Res (List D)) (n : Nat) (mf : MFn) : Res D := r.bind fun ds S1 => if ds.length = n then mf ds S1 else .stuck
theorem r_call : mCall n mf ms ρ S = kCall (ms ρ S) n mf := rfl
theorem kCall_ok (h : ds.length = n) : kCall (.ok ds S) n mf = mf ds S := if_pos h
theorem kCall_exc : kCall (.exc e S) n mf = .exc e S := rfl
theorem r_call0 : mCall0 mf ρ S = noX (mf [] S) := rfl
theorem noX_ok {u : α} : noX (.ok u S) = .ok u S := rfl
def kM1 (r : Res D) (c : Cl) (n : Nat) (mf : MFn) (ms : MAr) (ρ : Rho) : Res D := r.bind fun d S1 => (selfC c d S1).bind fun _ _ => (ms ρ S1).bind fun ds S2 => if ds.length + 1 = n then mf (d :: ds) S2 else .stuck
def kM2 (r : Res D) (d : D) (n : Nat) (mf : MFn) (ms : MAr) (ρ : Rho) (S : Sto) : Res D := r.bind fun _ _ => (ms ρ S).bind fun ds S2 => if ds.length + 1 = n then mf (d :: ds) S2 else .stuck
def kM3 (r : Res (List D)) (d : D) (n : Nat) (mf : MFn) : Res D := r.bind fun ds S2 => if ds.length + 1 = n then mf (d :: ds) S2 else .stuck
theorem r_meth : mMeth c n mf mo ms ρ S = kM1 (mo ρ S) c n mf ms ρ := rfl
theorem kM1_ok : kM1 (.ok d S) c n mf ms ρ = kM2 (selfC c d S) d n mf ms ρ S := rfl
theorem kM1_exc : kM1 (.exc e S) c n mf ms ρ = .exc e S := rfl
theorem kM2_ok : kM2 (.ok x S') d n mf ms ρ S = kM3 (ms ρ S) d n mf := rfl
theorem kM2_stuck : kM2 .stuck d n mf ms ρ S = .stuck := rfl
theorem kM3_ok (h : ds.length + 1 = n) : kM3 (.ok ds S) d n mf = mf (d :: ds) S := if_pos h
theorem kM3_exc : kM3 (.exc e S) d n mf = .exc e S := rfl
def kN1 (r : Res D) (c : Cl) (mf : MFn) : Res D := r.bind fun d S1 => (selfC c d S1).bind fun _ _ => noX (mf [d] S1)
def kN2 (r : Res D) (d : D) (mf : MFn) (S : Sto) : Res D := r.bind fun _ _ => noX (mf [d] S)
theorem r_meth0 : mMeth0 c mf mo ρ S = kN1 (mo ρ S) c mf := rfl
theorem kN1_ok : kN1 (.ok d S) c mf = kN2 (selfC c d S) d mf S := rfl
theorem kN1_exc : kN1 (.exc e S) c mf = .exc e S := rfl
theorem kN2_ok : kN2 (.ok x S') d mf S = noX (mf [d] S) := rfl
theorem kN2_stuck : kN2 .stuck d mf S = .stuck := rfl
theorem selfC_ok {l : Nat} {fs : List (Fl × D)} (h : S[l]? = some (.ins c fs)) : selfC c (.loc l) S = .ok (.loc l) S := by unfold selfC; simp only [h, if_true]
theorem selfC_no {l : Nat} {c' : Cl} {fs : List (Fl × D)} (h : S[l]? = some (.ins c' fs)) (hc : c' ≠ c) : selfC c (.loc l) S = .stuck := by unfold selfC; simp only [h, if_neg hc]
def kMake (r : Res (List D)) (c : Cl) (n : Nat) (mf : MFn) : Res D := r.bind fun ds S1 => if ds.length + 1 = n then mkEnd S1.length (mf (.loc S1.length :: ds) (S1 ++ [.ins c []])) else .stuck
theorem r_make : mMake c n mf ms ρ S = kMake (ms ρ S) c n mf := rfl
theorem kMake_ok (h : ds.length + 1 = n) : kMake (.ok ds S) c n mf = mkEnd S.length (mf (.loc S.length :: ds) (S ++ [.ins c []])) := if_pos h
theorem mkEnd_ok {l : Nat} : mkEnd l (.ok .non S) = .ok (.loc l) S := rfl
theorem r_cb {g : List D → Sto → Res D} : mCB g ms ρ S = (ms ρ S).bind g := rfl
theorem r_isi {T : String} : mIsi T a ρ S = (a ρ S).bind (isiR T) := rfl
theorem isiR_ok {T u : String} (h : d.ty S = some u) : isiR T d S = .ok (.bl (isT u T)) S := by unfold isiR; simp only [h]
def kBM1 (r : Res D) (p : D → Sto → Bool) (g : D → List D → Sto → Res D) (ms : MAr) (ρ : Rho) : Res D := r.bind fun d S1 => if p d S1 = true then (ms ρ S1).bind fun ds S2 => g d ds S2 else .stuck
def kBM2 (r : Res (List D)) (g : D → List D → Sto → Res D) (d : D) : Res D := r.bind fun ds S2 => g d ds S2
theorem r_bm {p : D → Sto → Bool} {g : D → List D → Sto → Res D} : mBM p g mo ms ρ S = kBM1 (mo ρ S) p g ms ρ := rfl
theorem kBM1_ok {p : D → Sto → Bool} {g : D → List D → Sto → Res D} (h : p d S = true) : kBM1 (.ok d S) p g ms ρ = kBM2 (ms ρ S) g d := if_pos h
theorem kBM2_ok {g : D → List D → Sto → Res D} : kBM2 (.ok ds S) g d = g d ds S := rfl
def kAlt (r : Res D) (b : MEx) (ρ : Rho) (S : Sto) : Res D := match r with
  | .stuck => b ρ S
  | r => r
theorem r_alt : mAlt a b ρ S = kAlt (a ρ S) b ρ S := rfl
theorem kAlt_ok : kAlt (.ok d S') b ρ S = .ok d S' := rfl
theorem kAlt_exc : kAlt (.exc e S') b ρ S = .exc e S' := rfl
theorem kAlt_stuck : kAlt .stuck b ρ S = b ρ S := rfl
def kSl1 (r : Res D) (ml mh : MPt) (ρ : Rho) : Res D := r.bind fun o S1 => (ml ρ S1).bind fun lo S2 => (mh ρ S2).bind fun hi S3 => slD' o lo hi S3
def kSl2 (r : Res (Option Int)) (o : D) (mh : MPt) (ρ : Rho) : Res D := r.bind fun lo S2 => (mh ρ S2).bind fun hi S3 => slD' o lo hi S3
def kSl3 (r : Res (Option Int)) (o : D) (lo : Option Int) : Res D := r.bind fun hi S3 => slD' o lo hi S3
theorem r_sl {ml mh : MPt} : mSl' mo ml mh ρ S = kSl1 (mo ρ S) ml mh ρ := rfl
theorem kSl1_ok {ml mh : MPt} : kSl1 (.ok d S) ml mh ρ = kSl2 (ml ρ S) d mh ρ := rfl
theorem kSl2_ok {lo : Option Int} {mh : MPt} : kSl2 (.ok lo S) d mh ρ = kSl3 (mh ρ S) d lo := rfl
theorem kSl3_ok {lo hi : Option Int} : kSl3 (.ok hi S) d lo = slD' d lo hi S := rfl
theorem r_ptN : ptNone ρ S = .ok none S := rfl
theorem r_ptS : ptSome m ρ S = (m ρ S).bind optI := rfl
theorem optI_ok {j : Int} : optI (.int j) S = .ok (some j) S := rfl
/-! statements -/
theorem r_nil : sNil ρ S = .nx ρ S := rfl
def kSeq (r : SR) (b : MSt) : SR := match r with
  | .nx ρ' S' => b ρ' S'
  | r => r
theorem r_seq : sSeq sa sb ρ S = kSeq (sa ρ S) sb := by unfold sSeq kSeq; rfl
theorem kSeq_nx : kSeq (.nx ρ S) sb = sb ρ S := rfl
theorem kSeq_rt : kSeq (.rt d S) sb = .rt d S := rfl
theorem kSeq_xc : kSeq (.xc e ρ S) sb = .xc e ρ S := rfl
theorem kSeq_bk : kSeq (.bk ρ S) sb = .bk ρ S := rfl
theorem kSeq_ct : kSeq (.ct ρ S) sb = .ct ρ S := rfl
def kClr (r : SR) (is : List Nat) : SR := match r with
  | .nx ρ' S' => .nx (clr is ρ') S'
  | r => r
theorem r_clr : sClr is sa ρ S = kClr (sa ρ S) is := by unfold sClr kClr; rfl
theorem kClr_nx : kClr (.nx ρ S) is = .nx (clr is ρ) S := rfl
theorem kClr_rt : kClr (.rt d S) is = .rt d S := rfl
theorem kClr_xc : kClr (.xc e ρ S) is = .xc e ρ S := rfl
theorem kClr_bk : kClr (.bk ρ S) is = .bk ρ S := rfl
theorem kClr_ct : kClr (.ct ρ S) is = .ct ρ S := rfl
theorem clr_nil : clr [] ρ = ρ := rfl
theorem clr_cons : clr (i :: is) ρ = (clr is ρ).set i none := rfl
def kSet (r : Res D) (i : Nat) (ρ : Rho) : SR := r.st ρ fun d S1 => .nx (ρ.set i (some d)) S1
theorem r_set : sSet i m ρ S = kSet (m ρ S) i ρ := rfl
theorem kSet_ok : kSet (.ok d S) i ρ = .nx (ρ.set i (some d)) S := rfl
theorem kSet_exc : kSet (.exc e S) i ρ = .xc e ρ S := rfl
def kExpr (r : Res D) (ρ : Rho) : SR := r.st ρ fun _ S1 => .nx ρ S1
theorem r_expr : sExpr m ρ S = kExpr (m ρ S) ρ := rfl
theorem kExpr_ok : kExpr (.ok d S) ρ = .nx ρ S := rfl
theorem kExpr_exc : kExpr (.exc e S) ρ = .xc e ρ S := rfl
def kRet (r : Res D) (ρ : Rho) : SR := r.st ρ fun d S1 => .rt d S1
theorem r_ret : sRet m ρ S = kRet (m ρ S) ρ := rfl
theorem kRet_ok : kRet (.ok d S) ρ = .rt d S := rfl
theorem kRet_exc : kRet (.exc e S) ρ = .xc e ρ S := rfl
theorem r_retN : sRetN ρ S = .rt .non S := rfl
def kSIf (r : Res Bool) (a b : MSt) (ρ : Rho) : SR := r.st ρ fun t S1 => if t = true then a ρ S1 else b ρ S1
theorem r_if : sIf mc sa sb ρ S = kSIf (mc ρ S) sa sb ρ := rfl
theorem kSIf_t : kSIf (.ok true S) sa sb ρ = sa ρ S := rfl
theorem kSIf_f : kSIf (.ok false S) sa sb ρ = sb ρ S := rfl
theorem kSIf_exc : kSIf (.exc e S) sa sb ρ = .xc e ρ S := rfl
theorem r_brk : sBrk ρ S = .bk ρ S := rfl
theorem r_cont : sCont ρ S = .ct ρ S := rfl
def kFor (r : Res MIt) (t : Tg) (b : MSt) (ρ : Rho) : SR := r.st ρ fun it S1 => forGo it t b it.fuel 0 ρ S1
theorem r_for {mi : MIx} : sFor mi t sb ρ S = kFor (mi ρ S) t sb ρ := rfl
theorem kFor_ok {it : MIt} : kFor (.ok it S) t sb ρ = forGo it t sb it.fuel 0 ρ S := rfl
def kIt (r : Option MIt) (S : Sto) : Res MIt := match r with
  | some it => .ok it S
  | none => .stuck
def kItA {α : Type} (r : Res α) (f : α → Sto → Option MIt) : Res MIt := r.it f
theorem kItA_ok {g : α → Sto → Option MIt} {u : α} : kItA (.ok u S) g = kIt (g u S) S := by unfold kItA Res.it kIt; rfl
theorem kIt_some {it : MIt} : kIt (some it) S = .ok it S := rfl
theorem r_itL : miL m ρ S = kItA (m ρ S) itL := rfl
theorem r_itT : miT m ρ S = kItA (m ρ S) itT := rfl
theorem r_itS : miS m ρ S = kItA (m ρ S) itS := rfl
theorem r_itR1 : miR1 ms ρ S = kItA (ms ρ S) itR1 := rfl
theorem r_itR2 : miR2 ms ρ S = kItA (ms ρ S) itR2 := rfl
theorem r_itEn : miEn ms ρ S = kItA (ms ρ S) itEn := rfl
def kAsg (r : Res D) (t : Tg) (ρ : Rho) : SR := r.st ρ fun d S1 => sTgO (tgM t d ρ S1) S1
theorem r_asg : sAsg t m ρ S = kAsg (m ρ S) t ρ := rfl
theorem kAsg_ok : kAsg (.ok d S) t ρ = sTgO (tgM t d ρ S) S := rfl
theorem sTgO_some : sTgO (some ρ) S = .nx ρ S := rfl
theorem tgM_nm : tgM (.nm i) d ρ S = some (ρ.set i (some d)) := rfl
theorem tgM_tp (h : items S d = some ds) (hl : ds.length = is.length) : tgM (.tp is) d ρ S = some (setAllM ρ is ds) := by simp only [tgM, h, if_pos hl]
theorem setAllM_nil : setAllM ρ [] [] = ρ := rfl
theorem setAllM_cons : setAllM ρ (i :: is) (d :: ds) = setAllM (ρ.set i (some d)) is ds := rfl
def kAug1 (o : Option (Option D)) (m : MEx) (f : D → D → Sto → Res D) (i : Nat) (ρ : Rho) (S : Sto) : SR := match o with
  | some (some x) => (m ρ S).st ρ fun y S1 => (f x y S1).st ρ fun z S2 => .nx (ρ.set i (some z)) S2
  | _ => .stuck
def kAug2 (r : Res D) (x : D) (f : D → D → Sto → Res D) (i : Nat) (ρ : Rho) : SR := r.st ρ fun y S1 => (f x y S1).st ρ fun z S2 => .nx (ρ.set i (some z)) S2
theorem r_aug : sAug i f m ρ S = kAug1 ρ[i]? m f i ρ S := by unfold sAug kAug1; rfl
theorem kAug1_ok : kAug1 (some (some x)) m f i ρ S = kAug2 (m ρ S) x f i ρ := rfl
theorem kAug2_ok : kAug2 (.ok y S) x f i ρ = kSet (f x y S) i ρ := rfl
def kFS1 (r : Res D) (f : Fl) (mo : MEx) (ρ : Rho) : SR := r.st ρ fun v S1 => (mo ρ S1).st ρ fun o S2 => nxO ρ (setF f o v S2)
def kFS2 (r : Res D) (f : Fl) (v : D) (ρ : Rho) : SR := r.st ρ fun o S2 => nxO ρ (setF f o v S2)
theorem r_fs {f : Fl} : sFldS f mo m ρ S = kFS1 (m ρ S) f mo ρ := rfl
theorem kFS1_ok {f : Fl} : kFS1 (.ok d S) f mo ρ = kFS2 (mo ρ S) f d ρ := rfl
theorem kFS2_ok {f : Fl} : kFS2 (.ok x S) f d ρ = nxO ρ (setF f x d S) := rfl
theorem nxO_some : nxO ρ (some S) = .nx ρ S := rfl
def kSL1 (r : Res D) (mo mi : MEx) (ρ : Rho) : SR := r.st ρ fun v S1 => (mo ρ S1).st ρ fun o S2 => (mi ρ S2).st ρ fun i S3 => nxO ρ (setI o i v S3)
def kSL2 (r : Res D) (mi : MEx) (v : D) (ρ : Rho) : SR := r.st ρ fun o S2 => (mi ρ S2).st ρ fun i S3 => nxO ρ (setI o i v S3)
def kSL3 (r : Res D) (o v : D) (ρ : Rho) : SR := r.st ρ fun i S3 => nxO ρ (setI o i v S3)
theorem r_sl1 {mi : MEx} : sSetL mo mi m ρ S = kSL1 (m ρ S) mo mi ρ := rfl
theorem kSL1_ok {mi : MEx} : kSL1 (.ok d S) mo mi ρ = kSL2 (mo ρ S) mi d ρ := rfl
theorem kSL2_ok {mi : MEx} : kSL2 (.ok x S) mi d ρ = kSL3 (mi ρ S) x d ρ := rfl
theorem kSL3_ok : kSL3 (.ok y S) x d ρ = nxO ρ (setI x y d S) := rfl
def kFn (r : SR) : Res D := r.fn
theorem r_fnB {N : Nat} : fnB N sb ds S = kFn (sb (ds.map some ++ List.replicate (N - ds.length) none) S) := rfl
theorem kFn_nx : kFn (.nx ρ S) = .ok .non S := rfl
theorem kFn_rt : kFn (.rt d S) = .ok d S := rfl
theorem kFn_xc : kFn (.xc e ρ S) = .exc e S := rfl
def kLc (r : Res MIt) (t : Tg) (tt : MTs) (me : MEx) (own : List Nat) (ρ : Rho) : Res D := r.bind fun it S1 => lcGo it t tt me (clr own ρ) S1.length it.fuel 0 (S1 ++ [.lst false []])
theorem r_lc {mi : MIx} {me : MEx} {own : List Nat} : mLc mi t mc me own ρ S = kLc (mi ρ S) t mc me own ρ := rfl
theorem kLc_ok {it : MIt} {me : MEx} {own : List Nat} : kLc (.ok it S) t mc me own ρ = lcGo it t mc me (clr own ρ) S.length it.fuel 0 (S ++ [.lst false []]) := rfl
theorem r_yes : tYesM ρ S = .ok true S := rfl
/-! what is read of the store -/
def kTg (o : Option (List D)) (is : List Nat) (ρ : Rho) (S : Sto) : SR := match o with
  | some xs => if xs.length = is.length then .nx (setAllM ρ is xs) S else .stuck
  | none => .stuck
theorem r_tgtp : sTgO (tgM (.tp is) d ρ S) S = kTg (items S d) is ρ S := by
  simp only [tgM]
  generalize items S d = o
  cases o with
  | none => rfl
  | some xs =>
    dsimp only [kTg]
    by_cases h : xs.length = is.length
    · rw [if_pos h, if_pos h]; rfl
    · rw [if_neg h, if_neg h]; rfl
theorem kTg_ok (h : ds.length = is.length) : kTg (some ds) is ρ S = .nx (setAllM ρ is ds) S := if_pos h
def kItems (o : Option O) : Option (List D) := match o with
  | some (.lst _ xs) => some xs
  | _ => none
theorem r_items {l : Nat} : items S (.loc l) = kItems S[l]? := by unfold items kItems; rfl
theorem r_itemsT : items S (.tup ds) = some ds := rfl
theorem kItems_ok {fz : Bool} : kItems (some (.lst fz ds)) = some ds := rfl
def kSelf (o : Option O) (c : Cl) (l : Nat) (S : Sto) : Res D := match o with
  | some (.ins c' _) => if c' = c then .ok (.loc l) S else .stuck
  | _ => .stuck
theorem r_self {l : Nat} : selfC c (.loc l) S = kSelf S[l]? c l S := by unfold selfC kSelf; rfl
theorem kSelf_ok {fs : List (Fl × D)} {l : Nat} : kSelf (some (.ins c fs)) c l S = .ok (.loc l) S := if_pos rfl
theorem kSelf_no {fs : List (Fl × D)} {l : Nat} {c' : Cl} (h : c' ≠ c) : kSelf (some (.ins c' fs)) c l S = .stuck := if_neg h
def kIsi (o : Option String) (T : String) (d : D) (S : Sto) : Res D := match o with
  | some u => .ok (.bl (isT u T)) S
  | none => .stuck
theorem r_isiR {T : String} : isiR T d S = kIsi (d.ty S) T d S := by unfold isiR kIsi; rfl
theorem kIsi_ok {T u : String} : kIsi (some u) T d S = .ok (.bl (isT u T)) S := rfl
def kTy (o : Option O) : Option String := match o with
  | some (.lst _ _) => some "list"
  | some (.dct _ _) => some "dict"
  | _ => none
theorem r_ty {l : Nat} : D.ty (.loc l) S = kTy S[l]? := by unfold D.ty kTy; rfl
theorem kTy_l {fz : Bool} : kTy (some (.lst fz ds)) = some "list" := rfl
def kGetF (o : Option O) (f : Fl) (S : Sto) : Res D := match o with
  | some (.ins _ fs) => match fs.lookup f with
    | some x => .ok x S
    | none => .stuck
  | _ => .stuck
theorem r_getF {f : Fl} {l : Nat} : getF f (.loc l) S = kGetF S[l]? f S := by unfold getF kGetF; rfl
def kLk (o : Option D) (S : Sto) : Res D := match o with
  | some x => .ok x S
  | none => .stuck
theorem kGetF_ok {f : Fl} {fs : List (Fl × D)} : kGetF (some (.ins c fs)) f S = kLk (fs.lookup f) S := by unfold kGetF kLk; rfl
theorem kLk_ok : kLk (some x) S = .ok x S := rfl
theorem lk_yes {f : Fl} {fs : List (Fl × D)} : List.lookup f ((f, x) :: fs) = some x := by simp [List.lookup]
theorem lk_no {f g : Fl} {fs : List (Fl × D)} (h : (f == g) = false) : List.lookup f ((g, x) :: fs) = List.lookup f fs := by simp only [List.lookup, h]
def kSetF (o : Option O) (f : Fl) (v : D) (l : Nat) (S : Sto) : Option Sto := match o with
  | some (.ins c fs) => if okF c f = true ∧ fs.length < 1000 then some (S.set l (.ins c (putFl f v fs))) else none
  | _ => none
theorem r_setF {f : Fl} {l : Nat} : setF f (.loc l) d S = kSetF S[l]? f d l S := by unfold setF kSetF; rfl
theorem kSetF_ok {f : Fl} {l : Nat} {fs : List (Fl × D)} (h : okF c f = true) (hl : fs.length < 1000) : kSetF (some (.ins c fs)) f d l S = some (S.set l (.ins c (putFl f d fs))) := if_pos ⟨h, hl⟩
def kItL (o : Option O) (l : Nat) : Option MIt := match o with
  | some (.lst _ xs) => some ⟨lstGet l, xs.length + 1⟩
  | _ => none
theorem r_itLl {l : Nat} : itL (.loc l) S = kItL S[l]? l := by unfold itL kItL; rfl
theorem kItL_ok {fz : Bool} {l : Nat} : kItL (some (.lst fz ds)) l = some ⟨lstGet l, ds.length + 1⟩ := rfl
def kIsL (o : Option O) : Bool := match o with
  | some (.lst _ _) => true
  | _ => false
theorem r_isL {l : Nat} : isL (.loc l) S = kIsL S[l]? := by unfold isL kIsL; rfl
theorem kIsL_ok {fz : Bool} : kIsL (some (.lst fz ds)) = true := rfl
def kApp (o : Option O) (l : Nat) (y : D) (S : Sto) : Res D := match o with
  | some (.lst false xs) => if xs.length < sizeLine then .ok .non (S.set l (.lst false (xs ++ [y]))) else .stuck
  | _ => .stuck
theorem r_lApp {l : Nat} : lAppend (.loc l) [y] S = kApp S[l]? l y S := by unfold lAppend kApp; rfl
theorem kApp_ok {l : Nat} (h : ds.length < sizeLine) : kApp (some (.lst false ds)) l y S = .ok .non (S.set l (.lst false (ds ++ [y]))) := if_pos h
def kGetI (o : Option O) (j : Int) (S : Sto) : Res D := match o with
  | some (.lst _ xs) => match atI xs j with
    | some x => .ok x S
    | none => .stuck
  | _ => .stuck
theorem r_getI {l : Nat} {j : Int} : getI (.loc l) (.int j) S = kGetI S[l]? j S := by
  (unfold getI kGetI; dsimp only) <;> (generalize S[l]? = o; rcases o with _ | _ | _ | _ <;> rfl)
theorem kGetI_ok {fz : Bool} {j : Int} : kGetI (some (.lst fz ds)) j S = kLk (atI ds j) S := by
  (unfold kGetI kLk; dsimp only) <;> (generalize atI ds j = o; cases o <;> rfl)
theorem r_getIT {j : Int} : getI (.tup ds) (.int j) S = kLk (atI ds j) S := by
  (unfold getI kLk; dsimp only) <;> (generalize atI ds j = o; cases o <;> rfl)
def kSetI (o : Option O) (j : Int) (v : D) (l : Nat) (S : Sto) : Option Sto := match o with
  | some (.lst false xs) => match ixN xs.length j with
    | some n => some (S.set l (.lst false (xs.set n v)))
    | none => none
  | _ => none
theorem r_setI {l : Nat} {j : Int} : setI (.loc l) (.int j) d S = kSetI S[l]? j d l S := by unfold setI kSetI; rfl
def kStO (o : Option Nat) (ds : List D) (v : D) (l : Nat) (S : Sto) : Option Sto := match o with
  | some n => some (S.set l (.lst false (ds.set n v)))
  | none => none
theorem kSetI_ok {l : Nat} {j : Int} : kSetI (some (.lst false ds)) j d l S = kStO (ixN ds.length j) ds d l S := by unfold kSetI kStO; rfl
theorem kStO_ok {l n : Nat} : kStO (some n) ds d l S = some (S.set l (.lst false (ds.set n d))) := rfl
end
end MP

set_option Elab.async false
set_option linter.all false
set_option maxRecDepth 100000
set_option maxHeartbeats 4000000
namespace MP
open PySem L2
/-! ### reckoning with the mirrors -/
theorem le_line {n : Nat} (h : n ≤ 100000) : (n ≤ sizeLine) = True := by
  rw [sizeLine_eq]
  exact eq_true (by omega)
theorem lt_line {n : Nat} (h : n ≤ 100000) : (n < sizeLine) = True := by
  rw [sizeLine_eq]
  exact eq_true (by omega)
theorem tupD_ok {ds : List D} {S : Sto} (h : ds.length ≤ 100000) : tupD ds S = .ok (.tup ds) S := by
  unfold tupD; rw [if_pos (by rw [le_line h]; trivial)]
theorem lstD_ok {ds : List D} {S : Sto} (h : ds.length ≤ 100000) : lstD ds S = .ok (.loc S.length) (S ++ [.lst false ds]) := by
  unfold lstD; rw [if_pos (by rw [le_line h]; trivial)]; rfl
theorem sub_int (i j : Int) (S : Sto) : intOp subI (.int i) (.int j) S = .ok (.int (i - j)) S := rfl
theorem add_int (i j : Int) (S : Sto) : addD (.int i) (.int j) S = .ok (.int (i + j)) S := rfl
theorem addI_int (i j : Int) (S : Sto) : intOp addI (.int i) (.int j) S = .ok (.int (i + j)) S := rfl
theorem mod_int {i j : Int} {S : Sto} (h : 0 < j) : intOp modI (.int i) (.int j) S = .ok (.int (i % j)) S := by
  unfold intOp modI; simp only [if_pos h]
theorem fdiv_int {i j : Int} {S : Sto} (h : 0 < j) (h2 : j.natAbs.log2 < 9000) : intOp fdivI (.int i) (.int j) S = .ok (.int (i / j)) S := by
  unfold intOp fdivI; simp only [if_pos (And.intro h h2)]
theorem mul_int' {i j : Int} {S : Sto} (h : (Builtin.Int.intBits i : Int) + (Builtin.Int.intBits j : Int) ≤ 134217728) : mulD (.int i) (.int j) S = .ok (.int (i * j)) S := by
  unfold mulD; simp only [if_pos h]
theorem mul_int {i j : Int} {S : Sto} {a b : Nat} (ha : i.natAbs < 2 ^ a) (hb : j.natAbs < 2 ^ b) (h : a + b ≤ 134217728) : mulD (.int i) (.int j) S = .ok (.int (i * j)) S := mul_int' (mulx_ok ha hb h)
theorem band_int (i j : Int) (S : Sto) : intOp andI (.int i) (.int j) S = .ok (.int (Builtin.bitAnd i j)) S := rfl
theorem bor_int (i j : Int) (S : Sto) : intOp orI (.int i) (.int j) S = .ok (.int (Builtin.bitOr i j)) S := rfl
theorem shr_int {i j : Int} {S : Sto} (h : 0 ≤ j) : intOp shrI (.int i) (.int j) S = .ok (.int (i / 2 ^ j.toNat)) S := by
  unfold intOp shrI; simp only [if_pos h]
theorem shl_int {i j : Int} {n : Nat} {S : Sto} (h0 : 0 ≤ j) (h : i.natAbs < 2 ^ n) (hn : n + j.toNat ≤ 134217728) : intOp shlI (.int i) (.int j) S = .ok (.int (i * 2 ^ j.toNat)) S := by
  have q := shl_ok h hn
  have e : ((j.toNat : Nat) : Int) = j := by omega
  rw [e] at q
  unfold intOp shlI
  simp only [if_pos (show 0 ≤ j ∧ (Builtin.Int.intBits i : Int) + j ≤ 2 ^ 27 from q)]
theorem pow_int {i j : Int} {S : Sto} (h : 0 ≤ j ∧ j ≤ 1000000 ∧ i.natAbs < 2 ^ 64) : intOp powI (.int i) (.int j) S = .ok (.int (i ^ j.toNat)) S := by
  unfold intOp powI; simp only [if_pos h]
theorem lt_int (i j : Int) (S : Sto) : cmpI ltI (.int i) (.int j) S = .ok (.bl (decide (i < j))) S := rfl
theorem le_int (i j : Int) (S : Sto) : cmpI leI (.int i) (.int j) S = .ok (.bl (decide (i ≤ j))) S := rfl
theorem gt_int (i j : Int) (S : Sto) : cmpI gtI (.int i) (.int j) S = .ok (.bl (decide (j < i))) S := rfl
theorem ge_int (i j : Int) (S : Sto) : cmpI geI (.int i) (.int j) S = .ok (.bl (decide (j ≤ i))) S := rfl
theorem eq_int (i j : Int) (S : Sto) : eqR (.int i) (.int j) S = .ok (.bl (decide (i = j))) S := rfl
theorem ne_int (i j : Int) (S : Sto) : neR (.int i) (.int j) S = .ok (.bl (!decide (i = j))) S := rfl
theorem eq_str (i j : Str) (S : Sto) : eqR (.str i) (.str j) S = .ok (.bl (decide (i = j))) S := rfl
theorem ne_str (i j : Str) (S : Sto) : neR (.str i) (.str j) S = .ok (.bl (!decide (i = j))) S := rfl
theorem is_non (d : D) (S : Sto) : isD d .non S = .ok (.bl d.isN) S := rfl
theorem isNot_non (d : D) (S : Sto) : isNotD d .non S = .ok (.bl (!d.isN)) S := rfl
theorem isN_non : D.isN .non = true := rfl
theorem isN_int (i : Int) : D.isN (.int i) = false := rfl
theorem isN_tup (xs : List D) : D.isN (.tup xs) = false := rfl
theorem isN_str (xs : Str) : D.isN (.str xs) = false := rfl
theorem isN_loc (l : Nat) : D.isN (.loc l) = false := rfl
theorem isN_bl (l : Bool) : D.isN (.bl l) = false := rfl
theorem cInt_int (i : Int) (S : Sto) : cInt [.int i] S = .ok (.int i) S := rfl
theorem cInt_bl (b : Bool) (S : Sto) : cInt [.bl b] S = .ok (.int (if b then 1 else 0)) S := rfl
theorem cAbs_int (i : Int) (S : Sto) : cAbs [.int i] S = .ok (.int (if i < 0 then -i else i)) S := rfl
theorem ty_int (i : Int) (S : Sto) : D.ty (.int i) S = some "int" := rfl
theorem ty_bl (i : Bool) (S : Sto) : D.ty (.bl i) S = some "bool" := rfl
theorem ty_str (i : Str) (S : Sto) : D.ty (.str i) S = some "str" := rfl
theorem ty_tup (i : List D) (S : Sto) : D.ty (.tup i) S = some "tuple" := rfl
theorem ty_non (S : Sto) : D.ty .non S = some "NoneType" := rfl
theorem isT_ii : isT "int" "int" = true := by decide
theorem isT_ib : isT "int" "bool" = false := by decide
theorem isT_bb : isT "bool" "bool" = true := by decide
theorem isT_bi : isT "bool" "int" = true := by decide
theorem isT_ni : isT "NoneType" "int" = false := by decide
/-- the list at l is read -/
theorem items_loc {S : Sto} {l : Nat} {fz : Bool} {xs : List D} (h : S[l]? = some (.lst fz xs)) : items S (.loc l) = some xs := by
  unfold items; simp only [h]
theorem items_tup {S : Sto} {xs : List D} : items S (.tup xs) = some xs := rfl
theorem itL_ok {S : Sto} {l : Nat} {fz : Bool} {xs : List D} (h : S[l]? = some (.lst fz xs)) : itL (.loc l) S = some ⟨lstGet l, xs.length + 1⟩ := by
  unfold itL; simp only [h]
theorem lstGet_ok {S : Sto} {l : Nat} {fz : Bool} {xs : List D} (h : S[l]? = some (.lst fz xs)) (i : Nat) : lstGet l i S = some xs[i]? := by
  unfold lstGet; simp only [h]
theorem getI_loc {S : Sto} {l : Nat} {fz : Bool} {xs : List D} {j : Nat} {d : D} (h : S[l]? = some (.lst fz xs)) (hj : xs[j]? = some d) : getI (.loc l) (.int (j : Int)) S = .ok d S := by
  unfold getI; simp only [h, atI_nat hj]
theorem getI_tup {S : Sto} {xs : List D} {j : Nat} {d : D} (hj : xs[j]? = some d) : getI (.tup xs) (.int (j : Int)) S = .ok d S := by
  unfold getI; simp only [atI_nat hj]
theorem lAppend_ok {S : Sto} {l : Nat} {xs : List D} {y : D} (h : S[l]? = some (.lst false xs)) (hl : xs.length ≤ 100000) : lAppend (.loc l) [y] S = .ok .non (S.set l (.lst false (xs ++ [y]))) := by
  unfold lAppend; simp only [h, lt_line hl, if_true]
theorem isL_ok {S : Sto} {l : Nat} {fz : Bool} {xs : List D} (h : S[l]? = some (.lst fz xs)) : isL (.loc l) S = true := by
  unfold isL; simp only [h]
/-! ### the store -/
theorem get_app {S T : Sto} {l : Nat} {o : O} (h : S[l]? = some o) : (S ++ T)[l]? = some o := by
  rw [List.getElem?_append_left (List.getElem?_eq_some_iff.mp h).1]; exact h
theorem get_last (S : Sto) (o : O) : (S ++ [o])[S.length]? = some o := by simp
theorem set_last (S : Sto) (o o' : O) : (S ++ [o]).set S.length o' = S ++ [o'] := by simp
/-! ### for -/
theorem forGo_ind {it : MIt} {t : Tg} {b : MSt} (xs : List D) (P : Nat → Rho → Sto → Prop) (Q : SR → Prop)
    (hget : ∀ i ρ S, i ≤ xs.length → P i ρ S → it.get i S = some xs[i]?)
    (hstep : ∀ i x ρ S, xs[i]? = some x → P i ρ S → ∃ ρ1, tgM t x ρ S = some ρ1 ∧ match b ρ1 S with
      | .nx ρ' S' => P (i + 1) ρ' S'
      | .ct ρ' S' => P (i + 1) ρ' S'
      | .bk ρ' S' => Q (.nx ρ' S')
      | r => Q r)
    (hend : ∀ ρ S, P xs.length ρ S → Q (.nx ρ S)) : ∀ m i ρ S, xs.length < m + i → i ≤ xs.length → P i ρ S → Q (forGo it t b m i ρ S)
  | 0, i, ρ, S, h1, h2, _ => by omega
  | m + 1, i, ρ, S, h1, h2, p => by
    unfold forGo
    rw [hget i ρ S h2 p]
    cases e : xs[i]? with
    | none =>
      have : xs.length ≤ i := List.getElem?_eq_none_iff.mp e
      have h3 : i = xs.length := by omega
      subst h3
      exact hend ρ S p
    | some x =>
      obtain ⟨ρ1, e1, hq⟩ := hstep i x ρ S e p
      have hi := (List.getElem?_eq_some_iff.mp e).1
      simp only [e1]
      cases qb : b ρ1 S with
      | nx ρ' S' => rw [qb] at hq; exact forGo_ind xs P Q hget hstep hend m (i + 1) ρ' S' (by omega) (by omega) hq
      | ct ρ' S' => rw [qb] at hq; exact forGo_ind xs P Q hget hstep hend m (i + 1) ρ' S' (by omega) (by omega) hq
      | bk ρ' S' => rw [qb] at hq; exact hq
      | rt d S' => rw [qb] at hq; exact hq
      | xc e' ρ' S' => rw [qb] at hq; exact hq
      | stuck => rw [qb] at hq; exact hq
/-- a loop that folds -/
theorem forGo_fold {α : Type} {it : MIt} {t : Tg} {b : MSt} (xs : List D) (f : α → D → α) (R : α → Rho) (T : α → Sto) (a0 : α) (hget : ∀ i a, i ≤ xs.length → it.get i (T a) = some xs[i]?)
    (hstep : ∀ a x, x ∈ xs → ∃ ρ1, tgM t x (R a) (T a) = some ρ1 ∧ b ρ1 (T a) = .nx (R (f a x)) (T (f a x))) {m : Nat} (hm : xs.length < m) : forGo it t b m 0 (R a0) (T a0) = .nx (R (xs.foldl f a0)) (T (xs.foldl f a0)) := by
  refine forGo_ind xs (fun i ρ S => ρ = R ((xs.take i).foldl f a0) ∧ S = T ((xs.take i).foldl f a0)) (fun r => r = .nx (R (xs.foldl f a0)) (T (xs.foldl f a0))) ?_ ?_ ?_ m 0 _ _ (by omega) (Nat.zero_le _) ⟨rfl, rfl⟩
  · rintro i ρ S hi ⟨rfl, rfl⟩
    exact hget i _ hi
  · rintro i x ρ S e ⟨rfl, rfl⟩
    obtain ⟨ρ1, e1, e2⟩ := hstep ((xs.take i).foldl f a0) x (List.mem_of_getElem? e)
    refine ⟨ρ1, e1, ?_⟩
    rw [e2]
    have e3 : xs.take (i + 1) = xs.take i ++ [x] := by
      rw [List.take_add_one, e]; rfl
    simp only [e3, List.foldl_append, List.foldl_cons, List.foldl_nil, and_self]
  · rintro ρ S ⟨rfl, rfl⟩
    rw [List.take_length]
/-! ### one loop, by an invariant -/
def stepQ (P : Rho → Sto → Prop) (Q : SR → Prop) : SR → Prop
  | .nx ρ S => P ρ S
  | .ct ρ S => P ρ S
  | .bk ρ S => Q (.nx ρ S)
  | r => Q r
theorem stepQ_nx {P : Rho → Sto → Prop} {Q : SR → Prop} {ρ : Rho} {S : Sto} : stepQ P Q (.nx ρ S) = P ρ S := rfl
theorem stepQ_ct {P : Rho → Sto → Prop} {Q : SR → Prop} {ρ : Rho} {S : Sto} : stepQ P Q (.ct ρ S) = P ρ S := rfl
theorem stepQ_bk {P : Rho → Sto → Prop} {Q : SR → Prop} {ρ : Rho} {S : Sto} : stepQ P Q (.bk ρ S) = Q (.nx ρ S) := rfl
theorem stepQ_rt {P : Rho → Sto → Prop} {Q : SR → Prop} {d : D} {S : Sto} : stepQ P Q (.rt d S) = Q (.rt d S) := rfl
theorem stepQ_xc {P : Rho → Sto → Prop} {Q : SR → Prop} {e : Ex} {ρ : Rho} {S : Sto} : stepQ P Q (.xc e ρ S) = Q (.xc e ρ S) := rfl
theorem forI {it : MIt} {t : Tg} {b : MSt} {m : Nat} {ρ0 : Rho} {S0 : Sto} {r : SR} (hr : forGo it t b m 0 ρ0 S0 = r) (xs : List D) (P : Nat → Rho → Sto → Prop) (Q : SR → Prop) (hm : xs.length < m) (h0 : P 0 ρ0 S0)
    (hget : ∀ i ρ S, i ≤ xs.length → P i ρ S → it.get i S = some xs[i]?)
    (hstep : ∀ i x ρ S, xs[i]? = some x → P i ρ S → ∃ ρ1, tgM t x ρ S = some ρ1 ∧ stepQ (P (i + 1)) Q (b ρ1 S))
    (hend : ∀ ρ S, P xs.length ρ S → Q (.nx ρ S)) : Q r := by
  rw [← hr]
  refine forGo_ind xs P Q hget ?_ hend m 0 ρ0 S0 (by omega) (Nat.zero_le _) h0
  intro i x ρ S e p
  obtain ⟨ρ1, e1, q⟩ := hstep i x ρ S e p
  refine ⟨ρ1, e1, ?_⟩
  cases hb : b ρ1 S <;> rw [hb] at q <;> exact q
/-- over a list that stays -/
theorem forL {l : Nat} {k : Nat} {t : Tg} {b : MSt} {m : Nat} {ρ0 : Rho} {S0 : Sto} {r : SR} (hr : forGo ⟨lstGet l, k⟩ t b m 0 ρ0 S0 = r) (xs : List D) (P : Nat → Rho → Sto → Prop) (Q : SR → Prop) (hm : xs.length < m) (h0 : P 0 ρ0 S0)
    (hget : ∀ i ρ S, P i ρ S → ∃ fz, S[l]? = some (.lst fz xs))
    (hstep : ∀ i x ρ S, xs[i]? = some x → P i ρ S → ∃ ρ1, tgM t x ρ S = some ρ1 ∧ stepQ (P (i + 1)) Q (b ρ1 S))
    (hend : ∀ ρ S, P xs.length ρ S → Q (.nx ρ S)) : Q r :=
  forI hr xs P Q hm h0 (fun i ρ S _ p => by obtain ⟨fz, e⟩ := hget i ρ S p; exact lstGet_ok e i) hstep hend
theorem rng_get {lo : Int} {n i : Nat} {S : Sto} : rngGet lo n i S = some ((List.range n).map fun k : Nat => D.int (lo + k))[i]? := by
  unfold rngGet
  by_cases h : i < n
  · simp [h]
  · simp [h]
/-- over a range -/
theorem forR {lo : Int} {n k : Nat} {t : Tg} {b : MSt} {m : Nat} {ρ0 : Rho} {S0 : Sto} {r : SR} (hr : forGo ⟨rngGet lo n, k⟩ t b m 0 ρ0 S0 = r) (P : Nat → Rho → Sto → Prop) (Q : SR → Prop) (hm : n < m) (h0 : P 0 ρ0 S0)
    (hstep : ∀ i ρ S, i < n → P i ρ S → ∃ ρ1, tgM t (.int (lo + i)) ρ S = some ρ1 ∧ stepQ (P (i + 1)) Q (b ρ1 S))
    (hend : ∀ ρ S, P n ρ S → Q (.nx ρ S)) : Q r := by
  have hlen : ((List.range n).map fun k : Nat => D.int (lo + k)).length = n := by simp
  refine forI hr ((List.range n).map fun k : Nat => D.int (lo + k)) P Q (by rw [hlen]; exact hm) h0 (fun i ρ S _ _ => @rng_get lo n i S) ?_ (by rw [hlen]; exact hend)
  intro i x ρ S e p
  have hi := (List.getElem?_eq_some_iff.mp e).1
  rw [hlen] at hi
  simp [hi] at e
  subst e
  exact hstep i ρ S hi p
theorem forT {xs : List D} {k : Nat} {t : Tg} {b : MSt} {m : Nat} {ρ0 : Rho} {S0 : Sto} {r : SR} (hr : forGo ⟨fixGet xs, k⟩ t b m 0 ρ0 S0 = r) (P : Nat → Rho → Sto → Prop) (Q : SR → Prop) (hm : xs.length < m) (h0 : P 0 ρ0 S0)
    (hstep : ∀ i x ρ S, xs[i]? = some x → P i ρ S → ∃ ρ1, tgM t x ρ S = some ρ1 ∧ stepQ (P (i + 1)) Q (b ρ1 S))
    (hend : ∀ ρ S, P xs.length ρ S → Q (.nx ρ S)) : Q r := forI hr xs P Q hm h0 (fun _ _ _ _ _ => rfl) hstep hend
/-! ### more steps -/
def kLen (o : Option O) (S : Sto) : Res D := match o with
  | some (.lst _ xs) => .ok (.int xs.length) S
  | some (.dct false kvs) => .ok (.int kvs.length) S
  | _ => .stuck
theorem r_len {l : Nat} {S : Sto} : cLen [.loc l] S = kLen S[l]? S := by
  (unfold cLen kLen; dsimp only) <;> (generalize S[l]? = o; rcases o with _ | _ | ⟨_ | _, _⟩ | _ <;> rfl)
theorem kLen_ok {fz : Bool} {ds : List D} {S : Sto} : kLen (some (.lst fz ds)) S = .ok (.int ds.length) S := rfl
theorem len_tup {ds : List D} {S : Sto} : cLen [.tup ds] S = .ok (.int ds.length) S := rfl
def kSl4 (o : Option O) (lo hi : Option Int) (S : Sto) : Res D := match o with
  | some (.lst _ xs) => .ok (.loc S.length) (S ++ [.lst false (cutD xs lo hi)])
  | _ => .stuck
theorem r_sl4 {l : Nat} {lo hi : Option Int} {S : Sto} : slD' (.loc l) lo hi S = kSl4 S[l]? lo hi S := by
  (unfold slD' kSl4; dsimp only) <;> (generalize S[l]? = o; rcases o with _ | _ | _ | _ <;> rfl)
theorem kSl4_ok {fz : Bool} {ds : List D} {lo hi : Option Int} {S : Sto} : kSl4 (some (.lst fz ds)) lo hi S = .ok (.loc S.length) (S ++ [.lst false (cutD ds lo hi)]) := rfl
theorem itR1_ok {j : Int} {S : Sto} (h0 : 0 ≤ j) (h1 : j < 2 ^ 62) : itR1 [.int j] S = some ⟨rngGet 0 j.toNat, j.toNat + 1⟩ := by
  simp only [itR1]; rw [if_pos ⟨by omega, h1⟩]
theorem itR2_ok {i j : Int} {S : Sto} (h0 : 0 ≤ i ∧ i < 2 ^ 62) (h1 : 0 ≤ j ∧ j < 2 ^ 62) : itR2 [.int i, .int j] S = some ⟨rngGet i (j - i).toNat, (j - i).toNat + 1⟩ := by
  simp only [itR2]; rw [if_pos ⟨by omega, by omega, by omega, by omega⟩]
theorem cut_from {xs : List D} {a : Nat} : cutD xs (some (a : Int)) none = xs.drop a := by
  unfold cutD
  have e1 : HT.sIx xs.length 0 (some (a : Int)) = min a xs.length := HT.sIx_nat _ _ _
  have e2 : HT.sIx xs.length xs.length none = xs.length := rfl
  rw [e1, e2]
  by_cases h : a ≤ xs.length
  · rw [Nat.min_eq_left h, List.take_of_length_le]; simp
  · rw [Nat.min_eq_right (by omega), List.drop_length, List.drop_of_length_le (by omega)]; simp
theorem cut_to {xs : List D} {a : Nat} : cutD xs none (some (a : Int)) = xs.take a := by
  unfold cutD
  have e1 : HT.sIx xs.length xs.length (some (a : Int)) = min a xs.length := HT.sIx_nat _ _ _
  have e2 : HT.sIx xs.length 0 none = 0 := rfl
  rw [e1, e2]
  by_cases h : a ≤ xs.length
  · rw [Nat.min_eq_left h]; simp
  · rw [Nat.min_eq_right (by omega), List.take_of_length_le (show xs.length ≤ a by omega)]; simp
theorem cut_both {xs : List D} {a b : Nat} : cutD xs (some (a : Int)) (some (b : Int)) = (xs.drop a).take (b - a) := by
  unfold cutD
  have e1 : HT.sIx xs.length 0 (some (a : Int)) = min a xs.length := HT.sIx_nat _ _ _
  have e2 : HT.sIx xs.length xs.length (some (b : Int)) = min b xs.length := HT.sIx_nat _ _ _
  rw [e1, e2]
  by_cases h : a ≤ xs.length
  · rw [Nat.min_eq_left h]
    by_cases h2 : b ≤ xs.length
    · rw [Nat.min_eq_left h2]
    · rw [Nat.min_eq_right (show xs.length ≤ b by omega), List.take_of_length_le (by simp), List.take_of_length_le (by simp; omega)]
  · rw [Nat.min_eq_right (show xs.length ≤ a by omega), List.drop_length, List.drop_of_length_le (show xs.length ≤ a by omega)]; simp
/-! a store with a tail of known objects -/
theorem at_0 {S T : Sto} {a : O} : (S ++ a :: T)[S.length]? = some a := by simp
theorem at_1 {S T : Sto} {a b : O} : (S ++ a :: b :: T)[S.length + 1]? = some b := by
  rw [List.getElem?_append_right (by omega)]; simp
theorem at_2 {S T : Sto} {a b c : O} : (S ++ a :: b :: c :: T)[S.length + 2]? = some c := by
  rw [List.getElem?_append_right (by omega)]; simp
theorem at_3 {S T : Sto} {a b c d : O} : (S ++ a :: b :: c :: d :: T)[S.length + 3]? = some d := by
  rw [List.getElem?_append_right (by omega)]; simp
theorem set_0 {S T : Sto} {a a' : O} : (S ++ a :: T).set S.length a' = S ++ a' :: T := by simp
theorem set_1 {S T : Sto} {a b b' : O} : (S ++ a :: b :: T).set (S.length + 1) b' = S ++ a :: b' :: T := by
  simp [List.set_append]
theorem set_2 {S T : Sto} {a b c c' : O} : (S ++ a :: b :: c :: T).set (S.length + 2) c' = S ++ a :: b :: c' :: T := by
  simp [List.set_append]
theorem len_app1 {S : Sto} {a : O} : (S ++ [a]).length = S.length + 1 := by simp
theorem len_app2 {S : Sto} {a b : O} : (S ++ [a, b]).length = S.length + 2 := by simp
theorem app_app1 {S T : Sto} {a : O} : (S ++ [a]) ++ T = S ++ a :: T := by simp
/-! ### sizes of ints -/
theorem bits_lt {z : Int} {n : Nat} (h : Builtin.Int.intBits z ≤ n) : z.natAbs < 2 ^ n := by
  unfold Builtin.Int.intBits at h
  split at h
  · rename_i hz
    have : z = 0 := by simpa using hz
    subst this
    exact Nat.two_pow_pos n
  · exact Nat.lt_of_lt_of_le (Nat.lt_log2_self) (Nat.pow_le_pow_right (by decide) h)
theorem abs_lt_pow {z : Int} {n : Nat} (h0 : 0 ≤ z) (h : z < 2 ^ n) : z.natAbs < 2 ^ n := by
  have : ((z.natAbs : Nat) : Int) = z := by omega
  have h2 : ((z.natAbs : Nat) : Int) < ((2 ^ n : Nat) : Int) := by rw [this, Int.natCast_pow]; exact h
  exact Int.ofNat_lt.mp h2
theorem mul_lt_pow {i j : Int} {a b : Nat} (ha : i.natAbs < 2 ^ a) (hb : j.natAbs < 2 ^ b) : (i * j).natAbs < 2 ^ (a + b) := by
  rw [Int.natAbs_mul, Nat.pow_add]
  exact Nat.mul_lt_mul'' ha hb
theorem log2_lt {z : Int} {n : Nat} (h0 : 0 < z) (h : z.natAbs < 2 ^ n) (hn : n ≤ 9000) : z.natAbs.log2 < 9000 := by
  have : z.natAbs.log2 < n := (Nat.log2_lt (by omega)).mpr h
  omega
theorem add_lt_pow {i j : Int} {a : Nat} (ha : i.natAbs < 2 ^ a) (hb : j.natAbs < 2 ^ a) : (i + j).natAbs < 2 ^ (a + 1) := by
  rw [Nat.pow_succ]
  have := Int.natAbs_add_le i j
  omega
/-! ### numbers drawn, by their own digits or mixed -/
def mix (c : Int) : Int :=
  let o := (c + 7) * 69621 % 2147483629
  c * 1583458089 % 2147483647 + 2147483647 * (o * o * o * o * o * 982451653)
def drawNum (c : Int) (free : Bool) : Int := if free then (if c < 0 then -c else c) else mix c
def digits (n : Int) : List Int → List Int
  | [] => []
  | s :: ss => n % s :: digits (n / s) ss
theorem mix_nn (c : Int) : 0 ≤ mix c := by
  unfold mix
  have h1 : 0 ≤ (c + 7) * 69621 % 2147483629 := Int.emod_nonneg _ (by decide)
  have h2 : 0 ≤ c * 1583458089 % 2147483647 := Int.emod_nonneg _ (by decide)
  have h3 := Int.mul_nonneg (Int.mul_nonneg (Int.mul_nonneg (Int.mul_nonneg h1 h1) h1) h1) h1
  have h4 := Int.mul_nonneg h3 (show (0 : Int) ≤ 982451653 by decide)
  have h5 := Int.mul_nonneg (show (0 : Int) ≤ 2147483647 by decide) h4
  show 0 ≤ _ + _
  omega
theorem drawNum_nn (c : Int) (free : Bool) : 0 ≤ drawNum c free := by
  unfold drawNum
  cases free with
  | true => simp only [if_true]; split <;> omega
  | false => exact mix_nn c
end MP

set_option Elab.async false
set_option linter.all false
set_option maxRecDepth 100000
set_option maxHeartbeats 4000000
namespace MP
open PySem L2
/-! ### equality of data -/
theorem optAll_map {α β : Type} {γ : Type} {f : α → Option β} {h : γ → α} {g : γ → β} : ∀ {xs : List γ}, (∀ x ∈ xs, f (h x) = some (g x)) → optAll f (xs.map h) = some (xs.map g)
  | [], _ => rfl
  | x :: xs, q => by
    have e1 := q x (List.mem_cons_self)
    have e2 := optAll_map (f := f) (h := h) (g := g) (xs := xs) fun y hy => q y (List.mem_cons_of_mem _ hy)
    simp only [List.map_cons, optAll, e1, e2]
theorem optAll_cons {α β : Type} {f : α → Option β} {x : α} {xs : List α} {y : β} {ys : List β} (h : f x = some y) (h2 : optAll f xs = some ys) : optAll f (x :: xs) = some (y :: ys) := by
  simp only [optAll, h, h2]
theorem optAll_mem {α β : Type} {f : α → Option β} : ∀ {xs : List α} {ys : List β}, optAll f xs = some ys → ∀ y ∈ ys, ∃ x ∈ xs, f x = some y
  | [], _, h, y, hy => by cases h; cases hy
  | x :: xs, ys, h, y, hy => by
    unfold optAll at h
    split at h
    · rename_i z zs e1 e2
      cases h
      rcases List.mem_cons.mp hy with rfl | hy
      · exact ⟨x, List.mem_cons_self, e1⟩
      · obtain ⟨w, hw, e⟩ := optAll_mem e2 y hy
        exact ⟨w, List.mem_cons_of_mem _ hw, e⟩
    · cases h
theorem depthAll_le {n : Nat} : ∀ {ps : List PyData}, (∀ p ∈ ps, p.depth ≤ n) → PyData.depthAll ps ≤ n
  | [], _ => by simp [PyData.depthAll]
  | p :: ps, h => by
    have h1 := h p List.mem_cons_self
    have h2 := depthAll_le (n := n) (ps := ps) fun q hq => h q (List.mem_cons_of_mem _ hq)
    simp only [PyData.depthAll]
    omega
theorem pd_depth {S : Sto} : ∀ {n : Nat} {d : D} {p : PyData}, pd S n d = some p → p.depth ≤ n := by
  intro n
  induction n with
  | zero => intro d p h; cases d <;> simp [pd] at h <;> subst h <;> simp [PyData.depth]
  | succ n ih =>
    intro d p h
    cases d with
    | tup xs =>
      simp only [pd] at h
      obtain ⟨ps, e, rfl⟩ := Option.map_eq_some_iff.mp h
      simp only [PyData.depth]
      have := depthAll_le (n := n) (ps := ps) fun q hq => by
        obtain ⟨x, _, ex⟩ := optAll_mem e q hq
        exact ih ex
      omega
    | loc l =>
      simp only [pd] at h
      split at h
      · obtain ⟨ps, e, rfl⟩ := Option.map_eq_some_iff.mp h
        simp only [PyData.depth]
        have := depthAll_le (n := n) (ps := ps) fun q hq => by
          obtain ⟨x, _, ex⟩ := optAll_mem e q hq
          exact ih ex
        omega
      · cases h
    | _ => simp [pd] at h; subst h; simp [PyData.depth]
theorem shaped_pd {S : Sto} {d : D} {p : PyData} (h : pd S 8 d = some p) (hc : p.canLay0 = true) : SeqAt.shaped p = true := by
  unfold SeqAt.shaped
  rw [hc, Bool.true_and]
  exact decide_eq_true (Nat.le_trans (pd_depth h) (by decide))
mutual
theorem eqv_refl : ∀ {p : PyData}, p.canLay0 = true → PyData.eqv p p = true
  | .none, _ => rfl
  | .bool b, _ => by simp [PyData.eqv]
  | .int i, _ => by simp [PyData.eqv]
  | .str x, _ => by simp [PyData.eqv]
  | .list xs, h => by simp only [PyData.eqv]; exact eqvAll_refl (by simpa [PyData.canLay0] using h)
  | .tuple xs, h => by simp only [PyData.eqv]; exact eqvAll_refl (by simpa [PyData.canLay0] using h)
  | .dict _, h => by simp [PyData.canLay0] at h
theorem eqvAll_refl : ∀ {ps : List PyData}, PyData.canLayAll0 ps = true → PyData.eqvAll ps ps = true
  | [], _ => rfl
  | p :: ps, h => by
    simp only [PyData.canLayAll0, Bool.and_eq_true] at h
    simp only [PyData.eqvAll, eqv_refl h.1, eqvAll_refl h.2, Bool.and_self]
end
mutual
/-- no truths inside: then == is being the same -/
def nb : PyData → Bool
  | .bool _ => false
  | .list xs => nbAll xs
  | .tuple xs => nbAll xs
  | _ => true
def nbAll : List PyData → Bool
  | [] => true
  | x :: xs => nb x && nbAll xs
end
mutual
theorem eqv_eq : ∀ {p q : PyData}, nb p = true → nb q = true → PyData.eqv p q = true → p = q := by
  intro p q h1 h2 h
  cases p <;> cases q <;> first
    | rfl
    | (exfalso; simp [nb] at h1; done)
    | (exfalso; simp [nb] at h2; done)
    | (exfalso; simp [PyData.eqv] at h; done)
    | (simp [PyData.eqv] at h; rw [h]; done)
    | (simp only [nb] at h1 h2; simp only [PyData.eqv] at h; rw [eqvAll_eq h1 h2 h])
theorem eqvAll_eq : ∀ {ps qs : List PyData}, nbAll ps = true → nbAll qs = true → PyData.eqvAll ps qs = true → ps = qs
  | [], [], _, _, _ => rfl
  | [], _ :: _, _, _, h => by simp [PyData.eqvAll] at h
  | _ :: _, [], _, _, h => by simp [PyData.eqvAll] at h
  | p :: ps, q :: qs, h1, h2, h => by
    simp only [nbAll, Bool.and_eq_true] at h1 h2
    simp only [PyData.eqvAll, Bool.and_eq_true] at h
    rw [eqv_eq h1.1 h2.1 h.1, eqvAll_eq h1.2 h2.2 h.2]
end
theorem eqD_pd {S : Sto} {x y : D} {p q : PyData} (hx : pd S 8 x = some p) (hy : pd S 8 y = some q) (h1 : p.canLay0 = true) (h2 : q.canLay0 = true) (b : Bool) (hb : PyData.eqv p q = b) (hs : x.scalar = false ∨ y.scalar = false) : eqD S x y = some b := by
  have deep : deepEq S x y = some b := by
    unfold deepEq
    rw [hx, hy]
    dsimp only
    rw [if_pos ⟨shaped_pd hx h1, shaped_pd hy h2⟩, hb]
  cases x <;> cases y <;> first | exact deep | (exfalso; simp [D.scalar] at hs; done)
theorem eqD_same {S : Sto} {x y : D} {p : PyData} (hx : pd S 8 x = some p) (hy : pd S 8 y = some p) (h1 : p.canLay0 = true) : eqD S x y = some true := by
  have deep : x.scalar = false ∨ y.scalar = false → eqD S x y = some true := eqD_pd hx hy h1 h1 true (eqv_refl h1)
  cases x <;> cases y <;> first
    | exact deep (.inl rfl)
    | exact deep (.inr rfl)
    | rfl
    | (simp [pd] at hx hy; subst hx; first | (cases hy; simp [eqD]; done) | (exfalso; cases hy; done) | (simp at hy; done) | (simp [eqD, hy]; done))
theorem eqR_same {S : Sto} {x y : D} {p : PyData} (hx : pd S 8 x = some p) (hy : pd S 8 y = some p) (h1 : p.canLay0 = true) : eqR x y S = .ok (.bl true) S := by
  unfold eqR; rw [eqD_same hx hy h1]
theorem neR_same {S : Sto} {x y : D} {p : PyData} (hx : pd S 8 x = some p) (hy : pd S 8 y = some p) (h1 : p.canLay0 = true) : neR x y S = .ok (.bl false) S := by
  unfold neR; rw [eqD_same hx hy h1]; rfl
theorem pd_loc {S : Sto} {n l : Nat} {fz : Bool} {xs : List D} {ps : List PyData} (h : S[l]? = some (.lst fz xs)) (hx : optAll (pd S n) xs = some ps) : pd S (n + 1) (.loc l) = some (.list ps) := by
  simp only [pd, h, hx]; rfl
theorem pd_tup {S : Sto} {n : Nat} {xs : List D} {ps : List PyData} (hx : optAll (pd S n) xs = some ps) : pd S (n + 1) (.tup xs) = some (.tuple ps) := by
  simp only [pd, hx]; rfl
theorem pd_int {S : Sto} {n : Nat} {i : Int} : pd S n (.int i) = some (.int i) := by cases n <;> rfl
theorem pd_str {S : Sto} {n : Nat} {i : Str} : pd S n (.str i) = some (.str i) := by cases n <;> rfl
theorem pd_bl {S : Sto} {n : Nat} {i : Bool} : pd S n (.bl i) = some (.bool i) := by cases n <;> rfl
theorem pd_non {S : Sto} {n : Nat} : pd S n .non = some .none := by cases n <;> rfl
theorem pd_ints {S : Sto} {n : Nat} {xs : List Int} : optAll (pd S n) (xs.map .int) = some (xs.map PyData.int) := optAll_map fun _ _ => pd_int
theorem lay_ints : ∀ {xs : List Int}, PyData.canLayAll0 (xs.map PyData.int) = true
  | [] => rfl
  | x :: xs => by simp only [List.map_cons, PyData.canLayAll0, PyData.canLay0, lay_ints, Bool.and_self]
theorem nb_ints : ∀ {xs : List Int}, nbAll (xs.map PyData.int) = true
  | [] => rfl
  | x :: xs => by simp only [List.map_cons, nbAll, nb, nb_ints, Bool.and_self]
theorem eqv_ints {xs ys : List Int} : PyData.eqv (.list (xs.map PyData.int)) (.list (ys.map PyData.int)) = decide (xs = ys) := by
  by_cases h : xs = ys
  · subst h
    rw [decide_eq_true rfl]
    exact eqv_refl (by simp only [PyData.canLay0]; exact lay_ints)
  · rw [decide_eq_false h]
    cases e : PyData.eqv (.list (xs.map PyData.int)) (.list (ys.map PyData.int)) with
    | false => rfl
    | true =>
      have q := eqv_eq (by simp only [nb]; exact nb_ints) (by simp only [nb]; exact nb_ints) e
      refine absurd ?_ h
      injection q with q
      exact List.map_inj_right (fun a b z => PyData.int.inj z) |>.mp q
theorem eqD_ints {S : Sto} {a b : Nat} {f g : Bool} {xs ys : List Int} (h1 : S[a]? = some (.lst f (xs.map .int))) (h2 : S[b]? = some (.lst g (ys.map .int))) : eqD S (.loc a) (.loc b) = some (decide (xs = ys)) :=
  eqD_pd (pd_loc h1 pd_ints) (pd_loc h2 pd_ints) (by simp only [PyData.canLay0]; exact lay_ints) (by simp only [PyData.canLay0]; exact lay_ints) _ eqv_ints (.inl rfl)
theorem eqR_ints {S : Sto} {a b : Nat} {f g : Bool} {xs ys : List Int} (h1 : S[a]? = some (.lst f (xs.map .int))) (h2 : S[b]? = some (.lst g (ys.map .int))) : eqR (.loc a) (.loc b) S = .ok (.bl (decide (xs = ys))) S := by
  unfold eqR; rw [eqD_ints h1 h2]
theorem neR_ints {S : Sto} {a b : Nat} {f g : Bool} {xs ys : List Int} (h1 : S[a]? = some (.lst f (xs.map .int))) (h2 : S[b]? = some (.lst g (ys.map .int))) : neR (.loc a) (.loc b) S = .ok (.bl (!decide (xs = ys))) S := by
  unfold neR; rw [eqD_ints h1 h2]
theorem eq_bl (a b : Bool) (S : Sto) : eqR (.bl a) (.bl b) S = .ok (.bl (decide (a = b))) S := rfl
theorem ne_bl (a b : Bool) (S : Sto) : neR (.bl a) (.bl b) S = .ok (.bl (!decide (a = b))) S := rfl
/-! ### index -1 and the like -/
theorem atI_pred {xs : List D} {k : Nat} (hk : k < xs.length) : ∃ x ∈ xs, atI xs ((k : Int) - 1) = some x := by
  cases k with
  | zero =>
    refine ⟨xs[xs.length - 1]'(by omega), List.getElem_mem _, ?_⟩
    unfold atI ixN
    rw [if_neg (by omega), if_pos (by omega)]
    simp only [Option.bind_some]
    rw [show (((0 : Nat) : Int) - 1 + (xs.length : Int)).toNat = xs.length - 1 by omega]
    exact List.getElem?_eq_getElem (by omega)
  | succ k =>
    refine ⟨xs[k]'(by omega), List.getElem_mem _, ?_⟩
    rw [show (((k + 1 : Nat) : Int) - 1) = (k : Int) by omega]
    exact atI_nat (List.getElem?_eq_getElem (by omega))
/-! ### bits of quotients -/
theorem div_lt_pow {c d : Int} {n : Nat} (hd : 0 < d) (hc : c.natAbs < 2 ^ n) : (c / d).natAbs < 2 ^ n := by
  have h1 : (c / d).natAbs ≤ c.natAbs := by
    by_cases h : 0 ≤ c
    · have h2 : c / d ≤ c := Int.ediv_le_self _ h
      have h3 : 0 ≤ c / d := Int.ediv_nonneg h (by omega)
      omega
    · have h2 : c ≤ c / d := by
        rw [Int.le_ediv_iff_mul_le hd]
        have := Int.mul_le_mul_of_nonpos_left (show c ≤ 0 by omega) (show (1 : Int) ≤ d by omega)
        omega
      have h3 : c / d < 0 := Int.ediv_neg_of_neg_of_pos (by omega) hd
      omega
  omega
theorem mod_lt_pow {c d : Int} {n : Nat} (hd : 0 < d) (hn : d.natAbs ≤ 2 ^ n) : (c % d).natAbs < 2 ^ n := by
  have h1 := Int.emod_nonneg c (show d ≠ 0 by omega)
  have h2 := Int.emod_lt_of_pos c hd
  omega
/-! ### stores with a known tail -/
theorem at_z {S T : Sto} : (S ++ T)[S.length]? = T[0]? := by
  rw [List.getElem?_append_right (Nat.le_refl _), Nat.sub_self]
theorem at_k {S T : Sto} {k : Nat} : (S ++ T)[S.length + k]? = T[k]? := by
  rw [List.getElem?_append_right (by omega), Nat.add_sub_cancel_left]
theorem set_z {S T : Sto} {o : O} : (S ++ T).set S.length o = S ++ T.set 0 o := by
  simp [List.set_append]
theorem set_k {S T : Sto} {k : Nat} {o : O} : (S ++ T).set (S.length + k) o = S ++ T.set k o := by
  simp [List.set_append]
def kAdd (a b : Option O) (S : Sto) : Res D := match a, b with
  | some (.lst _ xs), some (.lst _ ys) => if xs.length + ys.length ≤ sizeLine then .ok (.loc S.length) (S ++ [.lst false (xs ++ ys)]) else .stuck
  | _, _ => .stuck
theorem r_addL {a b : Nat} {S : Sto} : addD (.loc a) (.loc b) S = kAdd S[a]? S[b]? S := by
  simp only [addD, kAdd]
  generalize S[a]? = o
  generalize S[b]? = o'
  rcases o with _ | _ | _ | _ <;> rcases o' with _ | _ | _ | _ <;> rfl
theorem kAdd_ok {f g : Bool} {xs ys : List D} {S : Sto} (h : xs.length + ys.length ≤ sizeLine) : kAdd (some (.lst f xs)) (some (.lst g ys)) S = .ok (.loc S.length) (S ++ [.lst false (xs ++ ys)]) := if_pos h
/-! ### stores that only grow ahead of a place -/
theorem pfx_get {S S' : Sto} {i : Nat} {o : O} (h : S <+: S') (e : S[i]? = some o) : S'[i]? = some o := by
  obtain ⟨T, rfl⟩ := h
  exact get_app e
theorem pfx_app {S S' T : Sto} (h : S <+: S') : S <+: S' ++ T := by
  obtain ⟨U, rfl⟩ := h
  exact ⟨U ++ T, by rw [List.append_assoc]⟩
theorem pfx_set {S S' : Sto} {l : Nat} {o : O} (h : S <+: S') (hl : S.length ≤ l) : S <+: S'.set l o := by
  obtain ⟨U, rfl⟩ := h
  obtain ⟨k, rfl⟩ := Nat.exists_eq_add_of_le hl
  rw [set_k]
  exact ⟨_, rfl⟩
theorem pfx_len {S S' : Sto} (h : S <+: S') : S.length ≤ S'.length := h.length_le
theorem get_lt {S : Sto} {i : Nat} {o : O} (h : S[i]? = some o) : i < S.length := (List.getElem?_eq_some_iff.mp h).1
theorem set_get_self {S : Sto} {i : Nat} {o o' : O} (h : S[i]? = some o) : (S.set i o')[i]? = some o' := by
  rw [List.getElem?_set_self (get_lt h)]
theorem set_get_ne {S : Sto} {i j : Nat} {o o' : O} (h : S[j]? = some o) (hn : i ≠ j) : (S.set i o')[j]? = some o := by
  rw [List.getElem?_set_ne hn]; exact h
/-! ### n times a list -/
def kRep (a : Option O) (n : Int) (S : Sto) : Res D := match a with
  | some (.lst false xs) => if -(2 ^ 63) ≤ n ∧ n < 2 ^ 63 ∧ xs.length * n.toNat ≤ sizeLine then .ok (.loc S.length) (S ++ [.lst false (List.replicate n.toNat xs).flatten]) else .stuck
  | _ => .stuck
theorem r_rep {l : Nat} {n : Int} {S : Sto} : mulD (.loc l) (.int n) S = kRep S[l]? n S := by
  simp only [mulD, kRep]
  generalize S[l]? = o
  rcases o with _ | ⟨_ | _, _⟩ | _ | _ <;> rfl
theorem kRep_nat {x : D} {n : Nat} {S : Sto} (h : n ≤ 100000) : kRep (some (.lst false [x])) (n : Int) S = .ok (.loc S.length) (S ++ [.lst false (List.replicate n x)]) := by
  unfold kRep
  dsimp only
  rw [if_pos ⟨by omega, by omega, by rw [Int.toNat_natCast, List.length_singleton, Nat.one_mul, le_line h]; trivial⟩, Int.toNat_natCast]
  congr 3
  simp
/-! ### enumerate -/
def kEn (a : Option O) (l : Nat) : Option MIt := match a with
  | some (.lst _ xs) => some ⟨enGet l, xs.length + 1⟩
  | _ => none
theorem r_en {l : Nat} {S : Sto} : itEn [.loc l] S = kEn S[l]? l := by
  simp only [itEn, kEn] <;> (generalize S[l]? = o; rcases o with _ | _ | _ | _ <;> rfl)
theorem kEn_ok {fz : Bool} {xs : List D} {l : Nat} : kEn (some (.lst fz xs)) l = some ⟨enGet l, xs.length + 1⟩ := rfl
theorem enGet_ok {S : Sto} {l : Nat} {fz : Bool} {xs : List D} (h : S[l]? = some (.lst fz xs)) (i : Nat) : enGet l i S = some (xs[i]?.map fun d => .tup [.int (i : Nat), d]) := by
  simp only [enGet, h]
theorem forE {l : Nat} {k : Nat} {t : Tg} {b : MSt} {m : Nat} {ρ0 : Rho} {S0 : Sto} {r : SR} (hr : forGo ⟨enGet l, k⟩ t b m 0 ρ0 S0 = r) (xs : List D) (P : Nat → Rho → Sto → Prop) (Q : SR → Prop) (hm : xs.length < m) (h0 : P 0 ρ0 S0)
    (hget : ∀ i ρ S, P i ρ S → ∃ fz, S[l]? = some (.lst fz xs))
    (hstep : ∀ i x ρ S, xs[i]? = some x → P i ρ S → ∃ ρ1, tgM t (.tup [.int (i : Nat), x]) ρ S = some ρ1 ∧ stepQ (P (i + 1)) Q (b ρ1 S))
    (hend : ∀ ρ S, P xs.length ρ S → Q (.nx ρ S)) : Q r := by
  have hlen : (xs.mapIdx fun i d => D.tup [.int (i : Nat), d]).length = xs.length := List.length_mapIdx
  refine forI hr (xs.mapIdx fun i d => D.tup [.int (i : Nat), d]) P Q (by rw [hlen]; exact hm) h0 ?_ ?_ (by rw [hlen]; exact hend)
  · intro i ρ S _ p
    obtain ⟨fz, e⟩ := hget i ρ S p
    show enGet l i S = _
    rw [enGet_ok e, List.getElem?_mapIdx]
  · intro i x ρ S e p
    rw [List.getElem?_mapIdx] at e
    obtain ⟨y, ey, rfl⟩ := Option.map_eq_some_iff.mp e
    exact hstep i y ρ S ey p
/-! ### what a call leaves as it was -/
def Fr (W : List Nat) (S S' : Sto) : Prop := S.length ≤ S'.length ∧ ∀ i o, i ∉ W → S[i]? = some o → S'[i]? = some o
theorem Fr.refl {W : List Nat} {S : Sto} : Fr W S S := ⟨Nat.le_refl _, fun _ _ _ h => h⟩
theorem Fr.trans {W : List Nat} {S S' S'' : Sto} (a : Fr W S S') (b : Fr W S' S'') : Fr W S S'' := ⟨Nat.le_trans a.1 b.1, fun i o hi h => b.2 i o hi (a.2 i o hi h)⟩
theorem Fr.mono {W W' : List Nat} {S S' : Sto} (a : Fr W S S') (h : ∀ i, i ∈ W → i ∈ W') : Fr W' S S' := ⟨a.1, fun i o hi e => a.2 i o (fun z => hi (h i z)) e⟩
theorem Fr.pfx {W : List Nat} {S S' : Sto} (h : S <+: S') : Fr W S S' := ⟨pfx_len h, fun i o _ e => pfx_get h e⟩
theorem Fr.app {W : List Nat} {S T : Sto} : Fr W S (S ++ T) := .pfx ⟨_, rfl⟩
theorem Fr.set {W : List Nat} {S : Sto} {l : Nat} {o : O} (hl : l ∈ W) : Fr W S (S.set l o) :=
  ⟨by rw [List.length_set]; exact Nat.le_refl _, fun i o hi e => set_get_ne e (fun z => hi (z ▸ hl))⟩
/-! ### a comprehension by an invariant -/
def lcQ (P : Sto → Prop) (L : Nat) (tt : MTs) (me : MEx) (ρ1 : Rho) (S : Sto) : Prop :=
  ∃ b S2, tt ρ1 S = .ok b S2 ∧ (b = false → P S2) ∧ (b = true → ∃ y S3 acc, me ρ1 S2 = .ok y S3 ∧ S3[L]? = some (.lst false acc) ∧ acc.length < sizeLine ∧ P (S3.set L (.lst false (acc ++ [y]))))
theorem lcGo_ind {it : MIt} {t : Tg} {tt : MTs} {me : MEx} {ρ : Rho} {L : Nat} (xs : List D) (P : Nat → Sto → Prop) (Q : Res D → Prop)
    (hget : ∀ i S, i ≤ xs.length → P i S → it.get i S = some xs[i]?)
    (hstep : ∀ i x S, xs[i]? = some x → P i S → ∃ ρ1, tgM t x ρ S = some ρ1 ∧ lcQ (P (i + 1)) L tt me ρ1 S)
    (hend : ∀ S, P xs.length S → Q (.ok (.loc L) S)) : ∀ m i S, xs.length < m + i → i ≤ xs.length → P i S → Q (lcGo it t tt me ρ L m i S)
  | 0, i, S, h1, h2, _ => by omega
  | m + 1, i, S, h1, h2, p => by
    unfold lcGo
    rw [hget i S h2 p]
    cases e : xs[i]? with
    | none =>
      have : xs.length ≤ i := List.getElem?_eq_none_iff.mp e
      have h3 : i = xs.length := by omega
      subst h3
      exact hend S p
    | some x =>
      obtain ⟨ρ1, e1, b, S2, e2, hf, ht⟩ := hstep i x S e p
      have hi := (List.getElem?_eq_some_iff.mp e).1
      simp only [e1, e2, noX_ok, Res.bind_ok]
      cases b with
      | false => exact lcGo_ind xs P Q hget hstep hend m (i + 1) S2 (by omega) (by omega) (hf rfl)
      | true =>
        obtain ⟨y, S3, acc, e3, e4, e5, p'⟩ := ht rfl
        simp only [e3, noX_ok, Res.bind_ok, if_true, e4, e5]
        exact lcGo_ind xs P Q hget hstep hend m (i + 1) _ (by omega) (by omega) p'
theorem lcI {it : MIt} {t : Tg} {tt : MTs} {me : MEx} {ρ : Rho} {L m : Nat} {S0 : Sto} {r : Res D} (hr : lcGo it t tt me ρ L m 0 S0 = r) (xs : List D) (P : Nat → Sto → Prop) (Q : Res D → Prop) (hm : xs.length < m) (h0 : P 0 S0)
    (hget : ∀ i S, i ≤ xs.length → P i S → it.get i S = some xs[i]?)
    (hstep : ∀ i x S, xs[i]? = some x → P i S → ∃ ρ1, tgM t x ρ S = some ρ1 ∧ lcQ (P (i + 1)) L tt me ρ1 S)
    (hend : ∀ S, P xs.length S → Q (.ok (.loc L) S)) : Q r := by
  rw [← hr]
  exact lcGo_ind xs P Q hget hstep hend m 0 S0 (by omega) (Nat.zero_le _) h0
/-- a comprehension that only reckons -/
theorem lc_pure {it : MIt} {t : Tg} {tt : MTs} {me : MEx} {ρ : Rho} {m : Nat} {S0 : Sto} (xs : List D) (b : D → Bool) (f : D → D)
    (hget : ∀ i acc, it.get i (S0 ++ [.lst false acc]) = some xs[i]?)
    (hstep : ∀ x, x ∈ xs → ∀ acc, ∃ ρ1, tgM t x ρ (S0 ++ [.lst false acc]) = some ρ1 ∧ tt ρ1 (S0 ++ [.lst false acc]) = .ok (b x) (S0 ++ [.lst false acc]) ∧ (b x = true → me ρ1 (S0 ++ [.lst false acc]) = .ok (f x) (S0 ++ [.lst false acc])))
    (hl : xs.length ≤ 100000) (hm : xs.length < m) : lcGo it t tt me ρ S0.length m 0 (S0 ++ [.lst false []]) = .ok (.loc S0.length) (S0 ++ [.lst false ((xs.filter b).map f)]) := by
  refine lcI rfl xs (fun i S => S = S0 ++ [.lst false (((xs.take i).filter b).map f)]) (fun r => r = .ok (.loc S0.length) (S0 ++ [.lst false ((xs.filter b).map f)])) hm rfl ?_ ?_ ?_
  · rintro i S _ rfl
    exact hget i _
  · rintro i x S e rfl
    obtain ⟨ρ1, e1, e2, e3⟩ := hstep x (List.mem_of_getElem? e) (((xs.take i).filter b).map f)
    have e4 : xs.take (i + 1) = xs.take i ++ [x] := by rw [List.take_add_one, e]; rfl
    refine ⟨ρ1, e1, b x, _, e2, ?_, ?_⟩
    · intro hb
      rw [e4, List.filter_append, List.filter_cons_of_neg (by rw [hb]; exact Bool.false_ne_true), List.filter_nil, List.append_nil]
    · intro hb
      refine ⟨f x, _, ((xs.take i).filter b).map f, e3 hb, get_last _ _, ?_, ?_⟩
      · rw [lt_line]
        · trivial
        · rw [List.length_map]
          exact Nat.le_trans (List.length_filter_le _ _) (Nat.le_trans (by rw [List.length_take]; exact Nat.min_le_right _ _) hl)
      · rw [set_last, e4, List.filter_append, List.filter_cons_of_pos hb, List.filter_nil, List.map_append]
        rfl
  · rintro S rfl
    rw [List.take_length]
/-! ### while, by a measure -/
theorem whileI {c : MTs} {b : MSt} (P : Nat → Rho → Sto → Prop) (Q : SR → Prop) (hstep : ∀ n ρ S, P n ρ S → ∃ t S1, c ρ S = .ok t S1 ∧ (t = false → Q (.nx ρ S1)) ∧ (t = true → stepQ (fun ρ' S' => ∃ n', n' < n ∧ P n' ρ' S') Q (b ρ S1))) : ∀ m n ρ S, n < m → P n ρ S → Q (whileN c b m ρ S)
  | 0, n, ρ, S, h, _ => by omega
  | m + 1, n, ρ, S, h, p => by
    obtain ⟨t, S1, e, hf, ht⟩ := hstep n ρ S p
    unfold whileN
    rw [e]
    cases t with
    | false => exact hf rfl
    | true =>
      have q := ht rfl
      show Q (match b ρ S1 with
        | .nx ρ' S' => whileN c b m ρ' S'
        | .ct ρ' S' => whileN c b m ρ' S'
        | .bk ρ' S' => .nx ρ' S'
        | r => r)
      cases hb : b ρ S1 <;> rw [hb] at q
      case nx ρ' S' => obtain ⟨n', h1, h2⟩ := q; exact whileI P Q hstep m n' ρ' S' (by omega) h2
      case ct ρ' S' => obtain ⟨n', h1, h2⟩ := q; exact whileI P Q hstep m n' ρ' S' (by omega) h2
      all_goals exact q
theorem r_while {c : MTs} {b : MSt} {ρ : Rho} {S : Sto} : sWhile c b ρ S = whileN c b FUEL ρ S := rfl
theorem whileI' {c : MTs} {b : MSt} {ρ : Rho} {S : Sto} {r : SR} (hr : whileN c b FUEL ρ S = r) (P : Nat → Rho → Sto → Prop) (Q : SR → Prop) (n : Nat) (hn : n < 1000000) (h0 : P n ρ S) (hstep : ∀ n ρ S, P n ρ S → ∃ t S1, c ρ S = .ok t S1 ∧ (t = false → Q (.nx ρ S1)) ∧ (t = true → stepQ (fun ρ' S' => ∃ n', n' < n ∧ P n' ρ' S') Q (b ρ S1))) : Q r := by
  rw [← hr]
  exact whileI P Q hstep FUEL n ρ S hn h0
/-! ### in, of ints -/
theorem flat_ints {xs : List Int} : (xs.map D.int).all flatD = true := by
  rw [List.all_eq_true]
  intro x hx
  obtain ⟨i, _, rfl⟩ := List.mem_map.mp hx
  rfl
theorem inFlat_ints {a : Int} : ∀ {xs : List Int}, inFlat (.int a) (xs.map D.int) = decide (a ∈ xs)
  | [] => by simp [inFlat]
  | x :: xs => by
    have ih := inFlat_ints (a := a) (xs := xs)
    unfold inFlat at ih ⊢
    rw [List.map_cons, List.any_cons, ih]
    by_cases h : x = a
    · subst h; simp [eqFlat]
    · have h2 : a ≠ x := fun z => h z.symm
      have h3 : (x == a) = false := by simpa using h
      show ((x == a) || decide (a ∈ xs)) = _
      rw [h3, Bool.false_or]
      simp [List.mem_cons, h2]
theorem inQ_ints {l : Nat} {fz : Bool} {xs : List Int} {a : Int} {S : Sto} (h : S[l]? = some (.lst fz (xs.map .int))) : inQ false (.int a) (.loc l) S = .ok (.bl (decide (a ∈ xs))) S := by
  unfold inQ
  rw [r_items, h, kItems_ok]
  dsimp only
  rw [if_pos ⟨rfl, flat_ints⟩, inFlat_ints]
  rfl
theorem cList_ok {S : Sto} {l : Nat} {fz : Bool} {xs : List D} (h : S[l]? = some (.lst fz xs)) : cList [.loc l] S = .ok (.loc S.length) (S ++ [.lst false xs]) := by
  simp only [cList]
  rw [show items S (.loc l) = some xs by rw [r_items, h, kItems_ok]]
  rfl
/-! ### list.clear -/
def kBM0 (r : Res D) (p : D → Sto → Bool) (g : D → Sto → Res D) : Res D := r.bind fun d S1 => if p d S1 = true then g d S1 else .stuck
theorem r_bm0 {p : D → Sto → Bool} {g : D → Sto → Res D} {mo : MEx} {ρ : Rho} {S : Sto} : mBM0 p g mo ρ S = kBM0 (mo ρ S) p g := rfl
theorem kBM0_ok {p : D → Sto → Bool} {g : D → Sto → Res D} {d : D} {S : Sto} (h : p d S = true) : kBM0 (.ok d S) p g = g d S := if_pos h
def kClear (o : Option O) (l : Nat) (S : Sto) : Res D := match o with
  | some (.lst false _) => .ok .non (S.set l (.lst false []))
  | _ => .stuck
theorem r_lClear {l : Nat} {S : Sto} : lClear (.loc l) S = kClear S[l]? l S := by
  (simp only [lClear, kClear]) <;> (generalize S[l]? = o; rcases o with _ | ⟨_ | _, _⟩ | _ | _ <;> rfl)
theorem kClear_ok {l : Nat} {xs : List D} {S : Sto} : kClear (some (.lst false xs)) l S = .ok .non (S.set l (.lst false [])) := rfl
end MP

set_option Elab.async false
set_option linter.all false
set_option maxRecDepth 100000
set_option maxHeartbeats 4000000
namespace MP
open PySem L2
/-! ### the text by places -/
def top (i : Nat) : Stmt := PySem.Challenge.pw_heapsafe_k10_what_things_hold.main.body.getD i (.Pass ⟨0, 0, 0, 0⟩)
abbrev st_law_alike : Stmt := top 10
abbrev st_Pair_sort_of : Stmt := inClass (top 4) 0
abbrev st_is_thing : Stmt := top 1
abbrev st_Pair_waits : Stmt := inClass (top 4) 1
abbrev st_Plain_holds : Stmt := inClass (top 3) 2
abbrev st_Plain_sort_of : Stmt := inClass (top 3) 1
abbrev st_Plain_words : Stmt := inClass (top 3) 3
abbrev st_Thing_fields : Stmt := inClass (top 2) 2
abbrev st_Thing_holds : Stmt := inClass (top 2) 3
abbrev st_Thing_sort_of : Stmt := inClass (top 2) 1
abbrev st_Thing_waits : Stmt := inClass (top 2) 4
abbrev st_Thing_words : Stmt := inClass (top 2) 5
abbrev st_law_right : Stmt := top 12
abbrev st_law_value_by : Stmt := top 11
abbrev st_Thing_init : Stmt := inClass (top 2) 0
abbrev st_pair : Stmt := top 7
abbrev st_Plain_init : Stmt := inClass (top 3) 0
abbrev st_plain : Stmt := top 5
abbrev st_weak : Stmt := top 6
abbrev st_Plain_with_field : Stmt := inClass (top 3) 4
abbrev st_Plain_with_words : Stmt := inClass (top 3) 5
abbrev st_law_holds : Stmt := top 13
abbrev st_law : Stmt := top 14
/-! ### the mirrors -/
def iso_Thing : List (Cl × Bool) := [(.Pair, true), (.Plain, true), (.Thing, true)]
/-- 0 _law_found, 1 _law_due, 2 _law_key, 3 _law_k -/
def b_law_alike (f_rec : MFn) : MSt :=
 (sSeq (sIf (tOr' (mTest (mIsi "bool" (mVar 1))) (tOr' (mTest (mOp2 isD (mVar 1) (mC .non))) (mTest (mIsi "str" (mVar 1)))))
 (sRet (mAnd (mOp2 eqR (mVar 0) (mVar 1)) (mOp2 eqR (mIsi "str" (mVar 0)) (mIsi "str" (mVar 1)))))
 sNil)
 (sSeq (sIf (mTest (mIsi "int" (mVar 1)))
 (sRet (mAnd (mIsi "int" (mVar 0)) (mAnd (mNot (mIsi "bool" (mVar 0))) (mOp2 eqR (mVar 0) (mVar 1)))))
 sNil)
 (sSeq (sIf (tOr' (mTest (mOp2 neR (mIsi "tuple" (mVar 1)) (mIsi "tuple" (mVar 0)))) (mTest (mOp2 neR (mIsi "list" (mVar 1)) (mIsi "list" (mVar 0)))))
 (sRet (mC (.bl false)))
 sNil)
 (sSeq (sClr [2] (sIf (mTest (mIsi "dict" (mVar 1)))
 (sSeq (sIf (tOr' (tNot' (mTest (mIsi "dict" (mVar 0)))) (mTest (mOp2 neR (mCB cLen (aCons (mVar 0) aNil)) (mCB cLen (aCons (mVar 1) aNil)))))
 (sRet (mC (.bl false)))
 sNil)
 (sSeq (sClr [2] (sFor (miL (mVar 1)) (.nm 2)
 (sClr [2] (sIf (tOr' (mTest (mOp2 (inQ true) (mVar 2) (mVar 0))) (tNot' (mTest (mCall 2 f_rec (aCons (mOp2 getI (mVar 0) (mVar 2)) (aCons (mOp2 getI (mVar 1) (mVar 2)) aNil))))))
 (sRet (mC (.bl false)))
 sNil))))
 (sRet (mC (.bl true)))))
 sNil))
 (sSeq (sIf (mTest (mOp2 neR (mCB cLen (aCons (mVar 0) aNil)) (mCB cLen (aCons (mVar 1) aNil))))
 (sRet (mC (.bl false)))
 sNil)
 (sSeq (sClr [3] (sFor (miR1 (aCons (mCB cLen (aCons (mVar 1) aNil)) aNil)) (.nm 3)
 (sClr [3] (sIf (tNot' (mTest (mCall 2 f_rec (aCons (mOp2 getI (mVar 0) (mVar 3)) (aCons (mOp2 getI (mVar 1) (mVar 3)) aNil)))))
 (sRet (mC (.bl false)))
 sNil))))
 (sRet (mC (.bl true)))))))))
def f_law_alike : Nat → MFn
  | 0 => fun _ _ => .stuck
  | n + 1 => fnB 4 (b_law_alike (f_law_alike n))
/-- 0 self -/
def b_Pair_sort_of : MSt :=
 (sRet (mC (.str "pair")))
def f_Pair_sort_of : MFn := fnB 1 b_Pair_sort_of
/-- 0 value -/
def b_is_thing : MSt :=
 (sRet (mOp2 eqR (mOp2 getI (mVar 0) (mC (.int 0))) (mC (.str "thing"))))
def f_is_thing : MFn := fnB 1 b_is_thing
/-- 0 self -/
def b_Pair_waits : MSt :=
 (sSeq (sIf (mTest (mCall 1 f_is_thing (aCons (mOp2 getI (mFld .row (mVar 0)) (mC (.int 0))) aNil)))
 (sRet (mLst (aCons (mTup (aCons (mOp2 getI (mOp2 getI (mFld .row (mVar 0)) (mC (.int 0))) (mC (.int 1))) (aCons (mOp2 getI (mFld .row (mVar 0)) (mC (.int 1))) aNil))) aNil)))
 sNil)
 (sRet (mLst aNil)))
def f_Pair_waits : MFn := fnB 1 b_Pair_waits
/-- 0 self, 1 value -/
def b_Plain_holds : MSt :=
 (sRet (mLc (miL (mFld .row (mVar 0))) (.nm 1) (mTest (mCall 1 f_is_thing (aCons (mVar 1) aNil))) (mOp2 getI (mVar 1) (mC (.int 1))) [1]))
def f_Plain_holds : MFn := fnB 2 b_Plain_holds
/-- 0 self -/
def b_Plain_sort_of : MSt :=
 (sRet (mC (.str "plain")))
def f_Plain_sort_of : MFn := fnB 1 b_Plain_sort_of
/-- 0 self -/
def b_Plain_words : MSt :=
 (sRet (mFld .last_words (mVar 0)))
def f_Plain_words : MFn := fnB 1 b_Plain_words
/-- 0 self -/
def b_Thing_fields : MSt :=
 (sRet (mCB cList (aCons (mFld .row (mVar 0)) aNil)))
def f_Thing_fields : MFn := fnB 1 b_Thing_fields
/-- 0 self -/
def b_Thing_holds : MSt :=
 (sRet (mLst aNil))
def f_Thing_holds : MFn := fnB 1 b_Thing_holds
/-- 0 self -/
def b_Thing_sort_of : MSt :=
 (sRet (mC (.str "weak")))
def f_Thing_sort_of : MFn := fnB 1 b_Thing_sort_of
/-- 0 self -/
def b_Thing_waits : MSt :=
 (sRet (mLst aNil))
def f_Thing_waits : MFn := fnB 1 b_Thing_waits
/-- 0 self -/
def b_Thing_words : MSt :=
 (sRet (mC .non))
def f_Thing_words : MFn := fnB 1 b_Thing_words
/-- 0 _law_thing, 1 _law_sort, 2 _law_fields, 3 _law_words, 4 _law_holds_here, 5 _law_waits, 6 _law_due, 7 _law_value -/
def b_law_right : MSt :=
 (sSeq (sSet 4 (mLst aNil))
 (sSeq (sSet 5 (mLst aNil))
 (sSeq (sIf (mTest (mOp2 eqR (mVar 1) (mC (.str "plain"))))
 (sSet 4 (mLc (miL (mVar 2)) (.nm 7) (mTest (mOp2 eqR (mOp2 getI (mVar 7) (mC (.int 0))) (mC (.str "thing")))) (mOp2 getI (mVar 7) (mC (.int 1))) [7]))
 sNil)
 (sSeq (sIf (tAnd' (mTest (mOp2 eqR (mVar 1) (mC (.str "pair")))) (mTest (mOp2 eqR (mOp2 getI (mOp2 getI (mVar 2) (mC (.int 0))) (mC (.int 0))) (mC (.str "thing")))))
 (sSet 5 (mLst (aCons (mTup (aCons (mOp2 getI (mOp2 getI (mVar 2) (mC (.int 0))) (mC (.int 1))) (aCons (mOp2 getI (mVar 2) (mC (.int 1))) aNil))) aNil)))
 sNil)
 (sSeq (sSet 6 (mTup (aCons (mVar 1) (aCons (mVar 2) (aCons (mVar 3) (aCons (mVar 4) (aCons (mVar 5) aNil)))))))
 (sRet (mCall 2 (f_law_alike 8) (aCons (mTup (aCons (mAlt (mMeth0 .Thing f_Thing_sort_of (mVar 0)) (mAlt (mMeth0 .Plain f_Plain_sort_of (mVar 0)) (mMeth0 .Pair f_Pair_sort_of (mVar 0)))) (aCons (mAlt (mMeth0 .Thing f_Thing_fields (mVar 0)) (mAlt (mMeth0 .Plain f_Thing_fields (mVar 0)) (mMeth0 .Pair f_Thing_fields (mVar 0)))) (aCons (mAlt (mMeth0 .Thing f_Thing_words (mVar 0)) (mAlt (mMeth0 .Plain f_Plain_words (mVar 0)) (mMeth0 .Pair f_Thing_words (mVar 0)))) (aCons (mAlt (mMeth0 .Thing f_Thing_holds (mVar 0)) (mAlt (mMeth0 .Plain f_Plain_holds (mVar 0)) (mMeth0 .Pair f_Thing_holds (mVar 0)))) (aCons (mAlt (mMeth0 .Thing f_Thing_waits (mVar 0)) (mAlt (mMeth0 .Plain f_Thing_waits (mVar 0)) (mMeth0 .Pair f_Pair_waits (mVar 0)))) aNil)))))) (aCons (mVar 6) aNil)))))))))
def f_law_right : MFn := fnB 8 b_law_right
/-- 0 _law_number -/
def b_law_value_by : MSt :=
 (sSeq (sIf (mTest (mOp2 eqR (mOp2 (intOp modI) (mVar 0) (mC (.int 3))) (mC (.int 0))))
 (sRet (mTup (aCons (mC (.str "nothing")) aNil)))
 sNil)
 (sRet (mTup (aCons (mOp2 getI (mLst (aCons (mC (.str "number")) (aCons (mC (.str "thing")) aNil))) (mOp2 (intOp subI) (mOp2 (intOp modI) (mVar 0) (mC (.int 3))) (mC (.int 1)))) (aCons (mOp2 getI (mLst (aCons (mOp2 (intOp modI) (mOp2 (intOp fdivI) (mVar 0) (mC (.int 3))) (mC (.int 9))) (aCons (mOp2 (intOp modI) (mOp2 mulD (mVar 0) (mC (.int 982451653))) (mOp2 (intOp powI) (mC (.int 10)) (mC (.int 60)))) aNil))) (mOp2 (intOp modI) (mOp2 (intOp fdivI) (mVar 0) (mC (.int 27))) (mC (.int 2)))) aNil)))))
def f_law_value_by : MFn := fnB 1 b_law_value_by
/-- 0 self, 1 row -/
def b_Thing_init : MSt :=
 (sFldS .row (mVar 0) (mCB cList (aCons (mVar 1) aNil)))
def f_Thing_init : MFn := fnB 2 b_Thing_init
/-- 0 key, 1 value -/
def b_pair : MSt :=
 (sRet (mMake .Pair 2 f_Thing_init (aCons (mLst (aCons (mVar 0) (aCons (mVar 1) aNil))) aNil)))
def f_pair : MFn := fnB 2 b_pair
/-- 0 self, 1 row, 2 last_words -/
def b_Plain_init : MSt :=
 (sSeq (sExpr (mCall 2 f_Thing_init (aCons (mVar 0) (aCons (mVar 1) aNil))))
 (sFldS .last_words (mVar 0) (mVar 2)))
def f_Plain_init : MFn := fnB 3 b_Plain_init
/-- 0 fields, 1 words -/
def b_plain : MSt :=
 (sRet (mMake .Plain 3 f_Plain_init (aCons (mVar 0) (aCons (mVar 1) aNil))))
def f_plain : MFn := fnB 2 b_plain
/-- 0 field -/
def b_weak : MSt :=
 (sRet (mMake .Thing 2 f_Thing_init (aCons (mLst (aCons (mVar 0) aNil)) aNil)))
def f_weak : MFn := fnB 1 b_weak
/-- 0 self, 1 at, 2 value -/
def b_Plain_with_field : MSt :=
 (sRet (mMake .Plain 3 f_Plain_init (aCons (mOp2 addD (mOp2 addD (mSl' (mFld .row (mVar 0)) ptNone (ptSome (mVar 1))) (mLst (aCons (mVar 2) aNil))) (mSl' (mFld .row (mVar 0)) (ptSome (mOp2 addD (mVar 1) (mC (.int 1)))) ptNone)) (aCons (mFld .last_words (mVar 0)) aNil))))
def f_Plain_with_field : MFn := fnB 3 b_Plain_with_field
/-- 0 self, 1 words -/
def b_Plain_with_words : MSt :=
 (sRet (mMake .Plain 3 f_Plain_init (aCons (mFld .row (mVar 0)) (aCons (mVar 1) aNil))))
def f_Plain_with_words : MFn := fnB 2 b_Plain_with_words
/-- 0 _law_cell, 1 _law_number, 2 _law_fields, 3 _law_words, 4 _law_handed, 5 _law_thing, 6 _law_at, 7 _law_other, 8 _law_key, 9 _law_value, 10 _law_two, 11 _law_three, 12 _law_k -/
def b_law_holds : MSt :=
 (sSeq (sSet 1 (mCB cAbs (aCons (mVar 0) aNil)))
 (sSeq (sSet 2 (mLc (miR1 (aCons (mOp2 (intOp modI) (mVar 1) (mC (.int 9))) aNil)) (.nm 12) tYesM (mCall 1 f_law_value_by (aCons (mOp2 addD (mOp2 (intOp fdivI) (mVar 1) (mOp2 addD (mVar 12) (mC (.int 2)))) (mVar 12)) aNil)) [12]))
 (sSeq (sSet 3 (mOp2 getI (mLst (aCons (mC .non) (aCons (mOp2 (intOp modI) (mOp2 (intOp fdivI) (mVar 1) (mC (.int 9))) (mOp2 (intOp powI) (mC (.int 10)) (mC (.int 60)))) aNil))) (mOp2 (intOp modI) (mOp2 (intOp fdivI) (mVar 1) (mC (.int 5))) (mC (.int 2)))))
 (sSeq (sSet 4 (mCB cList (aCons (mVar 2) aNil)))
 (sSeq (sSet 5 (mCall 2 f_plain (aCons (mVar 4) (aCons (mVar 3) aNil))))
 (sSeq (sExpr (mBM isL lAppend (mVar 4) (aCons (mC (.str "more")) aNil)))
 (sSeq (sExpr (mBM isL lAppend (mAlt (mMeth0 .Thing f_Thing_fields (mVar 5)) (mAlt (mMeth0 .Plain f_Thing_fields (mVar 5)) (mMeth0 .Pair f_Thing_fields (mVar 5)))) (aCons (mC (.str "more")) aNil)))
 (sSeq (sExpr (mBM isL lAppend (mAlt (mMeth0 .Thing f_Thing_holds (mVar 5)) (mAlt (mMeth0 .Plain f_Plain_holds (mVar 5)) (mMeth0 .Pair f_Thing_holds (mVar 5)))) (aCons (mC (.str "more")) aNil)))
 (sSeq (sIf (tOr' (tNot' (mTest (mIso iso_Thing (mVar 5)))) (tNot' (mTest (mCall 4 f_law_right (aCons (mVar 5) (aCons (mC (.str "plain")) (aCons (mVar 2) (aCons (mVar 3) aNil))))))))
 (sRet (mC (.bl false)))
 sNil)
 (sSeq (sClr [6, 7] (sIf (mTest (mOp2 neR (mVar 2) (mLst aNil)))
 (sSeq (sSet 6 (mOp2 (intOp modI) (mOp2 (intOp fdivI) (mVar 1) (mC (.int 7))) (mCB cLen (aCons (mVar 2) aNil))))
 (sSeq (sSet 7 (mMeth .Plain 3 f_Plain_with_field (mVar 5) (aCons (mVar 6) (aCons (mTup (aCons (mC (.str "thing")) (aCons (mC (.int 7)) aNil))) aNil))))
 (sIf (tNot' (mTest (mCall 4 f_law_right (aCons (mVar 7) (aCons (mC (.str "plain")) (aCons (mOp2 addD (mOp2 addD (mSl' (mVar 2) ptNone (ptSome (mVar 6))) (mLst (aCons (mTup (aCons (mC (.str "thing")) (aCons (mC (.int 7)) aNil))) aNil))) (mSl' (mVar 2) (ptSome (mOp2 addD (mVar 6) (mC (.int 1)))) ptNone)) (aCons (mVar 3) aNil)))))))
 (sRet (mC (.bl false)))
 sNil)))
 sNil))
 (sSeq (sIf (tNot' (mTest (mCall 4 f_law_right (aCons (mMeth .Plain 2 f_Plain_with_words (mVar 5) (aCons (mC (.int 5)) aNil)) (aCons (mC (.str "plain")) (aCons (mVar 2) (aCons (mC (.int 5)) aNil)))))))
 (sRet (mC (.bl false)))
 sNil)
 (sSeq (sIf (tNot' (mTest (mCall 4 f_law_right (aCons (mMeth .Plain 2 f_Plain_with_words (mVar 5) (aCons (mC .non) aNil)) (aCons (mC (.str "plain")) (aCons (mVar 2) (aCons (mC .non) aNil)))))))
 (sRet (mC (.bl false)))
 sNil)
 (sSeq (sSet 8 (mOp2 getI (mLst (aCons (mTup (aCons (mC (.str "thing")) (aCons (mOp2 (intOp modI) (mVar 1) (mC (.int 50))) aNil))) (aCons (mTup (aCons (mC (.str "nothing")) aNil)) aNil))) (mOp2 (intOp modI) (mOp2 (intOp fdivI) (mVar 1) (mC (.int 11))) (mC (.int 2)))))
 (sSeq (sSet 9 (mCall 1 f_law_value_by (aCons (mOp2 (intOp fdivI) (mVar 1) (mC (.int 13))) aNil)))
 (sSeq (sSet 10 (mCall 1 f_weak (aCons (mVar 8) aNil)))
 (sSeq (sSet 11 (mCall 2 f_pair (aCons (mVar 8) (aCons (mVar 9) aNil))))
 (sSeq (sExpr (mBM isL lAppend (mAlt (mMeth0 .Thing f_Thing_waits (mVar 11)) (mAlt (mMeth0 .Plain f_Thing_waits (mVar 11)) (mMeth0 .Pair f_Pair_waits (mVar 11)))) (aCons (mC (.str "more")) aNil)))
 (sSeq (sIf (tOr' (tNot' (mTest (mIso iso_Thing (mVar 10)))) (tOr' (tNot' (mTest (mIso iso_Thing (mVar 11)))) (tNot' (mTest (mCall 4 f_law_right (aCons (mVar 5) (aCons (mC (.str "plain")) (aCons (mVar 2) (aCons (mVar 3) aNil)))))))))
 (sRet (mC (.bl false)))
 sNil)
 (sRet (mAnd (mCall 4 f_law_right (aCons (mVar 10) (aCons (mC (.str "weak")) (aCons (mLst (aCons (mVar 8) aNil)) (aCons (mC .non) aNil))))) (mCall 4 f_law_right (aCons (mVar 11) (aCons (mC (.str "pair")) (aCons (mLst (aCons (mVar 8) (aCons (mVar 9) aNil))) (aCons (mC .non) aNil)))))))))))))))))))))))))
def f_law_holds : MFn := fnB 13 b_law_holds
/-- 0 _law_script, 1 _law_cell -/
def b_law : MSt :=
 (sSeq (sClr [1] (sFor (miL (mOp2 addD (mLst (aCons (mC (.int 0)) aNil)) (mVar 0))) (.nm 1)
 (sClr [1] (sIf (tNot' (mTest (mCall 1 f_law_holds (aCons (mVar 1) aNil))))
 (sRet (mC (.bl false)))
 sNil))))
 (sRet (mC (.bl true))))
def f_law : MFn := fnB 2 b_law

end MP

set_option Elab.async false
set_option linter.all false
set_option maxRecDepth 100000
set_option maxHeartbeats 4000000
namespace MP
open PySem L2
/-! ### the built-in names that the text leaves alone -/
structure Blt (mg : Str → Option Value) : Prop where
  abs : mg "abs" = none
  bool : mg "bool" = none
  dict : mg "dict" = none
  int : mg "int" = none
  isinstance : mg "isinstance" = none
  len : mg "len" = none
  list : mg "list" = none
  range : mg "range" = none
  str : mg "str" = none
  tuple : mg "tuple" = none
section
variable {P : Program} {w : World} {K : PySem.W.Frag} {mg : Str → Option Value} {base : Heap} {G : Ga}
theorem sc_law_alike : FnScope ["_law_found", "_law_due", "_law_key", "_law_k"] ["_law_found", "_law_due"] (defScope st_law_alike) := ⟨rfl, rfl, rfl, by decide +kernel, rfl, by decide +kernel, by decide +kernel⟩
theorem ok_law_alike {f : Addr} {fd : FuncData} (F : Fun K "_law_alike" "_law_alike" st_law_alike f fd) (g : Gok K G) (B : Blt mg) (hm : mg "_law_alike" = some (.ref f)) (hk : PySem.W.keepIn K (.ref f) = true) (hb : Binds K fd ["_law_found", "_law_due"] [])  : ∀ n : Nat, FnOk P w K mg base (L2.CX P w) (0 + n) f fd ["_law_found", "_law_due"] (SpM K G (f_law_alike n) 2)
  | 0 => ok_never
  | n + 1 =>
    have ih := ok_law_alike F g B hm hk hb  n
    have F_law_alike : FnG P w K mg base G (0 + n) "_law_alike" (f_law_alike n) 2 := ⟨f, fd, ["_law_found", "_law_due"], ih, hm, hk, hb⟩
    mk_fn F sc_law_alike fun cdv A outer s H E d =>
 (ss_cons (s_if (PW.pt (t_or (t_val (d_isi "bool" B.isinstance B.bool (d_var 1))) (t_or (t_cmp op_isN s_is (d_var 1) d_non (nomark _)) (t_or1 (t_val (d_isi "str" B.isinstance B.str (d_var 1)))))))
 (ss_one (s_ret (d_and (d_cmp (op_eqU d) s_eq (d_var 0) (d_var 1) (nomark _)) (d_one (d_cmp (op_eqU d) s_eq (d_isi "str" B.isinstance B.str (d_var 0)) (d_isi "str" B.isinstance B.str (d_var 1)) (nomark _))))))
 ss_nil)
 (ss_cons (s_if (t_val (d_isi "int" B.isinstance B.int (d_var 1)))
 (ss_one (s_ret (d_and (d_isi "int" B.isinstance B.int (d_var 0)) (d_and (d_not (d_isi "bool" B.isinstance B.bool (d_var 0))) (d_one (d_cmp (op_eqU d) s_eq (d_var 0) (d_var 1) (nomark _)))))))
 ss_nil)
 (ss_cons (s_if (PW.pt (t_or (t_cmp (op_neU d) s_ne (d_isi "tuple" B.isinstance B.tuple (d_var 1)) (d_isi "tuple" B.isinstance B.tuple (d_var 0)) (nomark _)) (t_or1 (t_cmp (op_neU d) s_ne (d_isi "list" B.isinstance B.list (d_var 1)) (d_isi "list" B.isinstance B.list (d_var 0)) (nomark _)))))
 (ss_one (s_ret d_bl))
 ss_nil)
 (ss_cons (s_clr [2] (s_if (t_val (d_isi "dict" B.isinstance B.dict (d_var 1)))
 (ss_cons (s_if (PW.pt (t_or (t_not (t_val (d_isi "dict" B.isinstance B.dict (d_var 0)))) (t_or1 (t_cmp (op_neU d) s_ne (d_callB cr_lenU s_len B.len (a_cons (d_var 0) a_nil)) (d_callB cr_lenU s_len B.len (a_cons (d_var 1) a_nil)) (nomark _)))))
 (ss_one (s_ret d_bl))
 ss_nil)
 (ss_cons (s_clr [2] (s_for d (i_list (d_var 1)) (g_nm d)
 (ss_one (s_clr [2] (s_if (PW.pt (t_or (t_cmp op_notIn_seq s_inQ (d_var 2) (d_var 0) (by rfl)) (t_or1 (t_not (t_val (d_call (hj := Nat.le_refl _) F_law_alike d (a_cons (d_ix (d_var 0) (d_var 2)) (a_cons (d_ix (d_var 1) (d_var 2)) a_nil))))))))
 (ss_one (s_ret d_bl))
 ss_nil)))))
 (ss_one (s_ret d_bl))))
 ss_nil))
 (ss_cons (s_if (t_cmp (op_neU d) s_ne (d_callB cr_lenU s_len B.len (a_cons (d_var 0) a_nil)) (d_callB cr_lenU s_len B.len (a_cons (d_var 1) a_nil)) (nomark _))
 (ss_one (s_ret d_bl))
 ss_nil)
 (ss_cons (s_clr [3] (s_for d (i_rng1 B.range (a_cons (d_callB cr_lenU s_len B.len (a_cons (d_var 1) a_nil)) a_nil)) (g_nm d)
 (ss_one (s_clr [3] (s_if (t_not (t_val (d_call (hj := Nat.le_refl _) F_law_alike d (a_cons (d_ix (d_var 0) (d_var 3)) (a_cons (d_ix (d_var 1) (d_var 3)) a_nil)))))
 (ss_one (s_ret d_bl))
 ss_nil)))))
 (ss_one (s_ret d_bl))))))))
theorem sc_Pair_sort_of : FnScope ["self"] ["self"] (defScope st_Pair_sort_of) := ⟨rfl, rfl, rfl, by decide +kernel, rfl, by decide +kernel, by decide +kernel⟩
theorem ok_Pair_sort_of {f : Addr} {fd : FuncData} (F : Fun K "sort_of" "Pair.sort_of" st_Pair_sort_of f fd) (g : Gok K G) (B : Blt mg)  : FnOk P w K mg base (L2.CX P w) 1 f fd ["self"] (SpM K G f_Pair_sort_of 1) :=
  mk_fn F sc_Pair_sort_of fun cdv A outer s H E d =>
 (ss_one (s_ret d_str))
theorem sc_is_thing : FnScope ["value"] ["value"] (defScope st_is_thing) := ⟨rfl, rfl, rfl, by decide +kernel, rfl, by decide +kernel, by decide +kernel⟩
theorem ok_is_thing {f : Addr} {fd : FuncData} (F : Fun K "is_thing" "is_thing" st_is_thing f fd) (g : Gok K G) (B : Blt mg)  : FnOk P w K mg base (L2.CX P w) 1 f fd ["value"] (SpM K G f_is_thing 1) :=
  mk_fn F sc_is_thing fun cdv A outer s H E d =>
 (ss_one (s_ret (d_cmp (op_eqU d) s_eq (d_ix (d_var 0) d_int) d_str (nomark _))))
theorem sc_Pair_waits : FnScope ["self"] ["self"] (defScope st_Pair_waits) := ⟨rfl, rfl, rfl, by decide +kernel, rfl, by decide +kernel, by decide +kernel⟩
theorem ok_Pair_waits {f : Addr} {fd : FuncData} (F : Fun K "waits" "Pair.waits" st_Pair_waits f fd) (g : Gok K G) (B : Blt mg) (F_is_thing : FnG P w K mg base G 1 "is_thing" f_is_thing 1) : FnOk P w K mg base (L2.CX P w) 2 f fd ["self"] (SpM K G f_Pair_waits 1) :=
  mk_fn F sc_Pair_waits fun cdv A outer s H E d =>
 (ss_cons (s_if (t_val (d_call F_is_thing d (a_cons (d_ix (d_fld .row g (d_var 0)) d_int) a_nil)))
 (ss_one (s_ret (d_lst (a_cons (d_tup (a_cons (d_ix (d_ix (d_fld .row g (d_var 0)) d_int) d_int) (a_cons (d_ix (d_fld .row g (d_var 0)) d_int) a_nil))) a_nil))))
 ss_nil)
 (ss_one (s_ret (d_lst a_nil))))
theorem sc_Plain_holds : FnScope ["self", "value"] ["self"] (defScope st_Plain_holds) := ⟨rfl, rfl, rfl, by decide +kernel, rfl, by decide +kernel, by decide +kernel⟩
theorem ok_Plain_holds {f : Addr} {fd : FuncData} (F : Fun K "holds" "Plain.holds" st_Plain_holds f fd) (g : Gok K G) (B : Blt mg) (F_is_thing : FnG P w K mg base G 1 "is_thing" f_is_thing 1) : FnOk P w K mg base (L2.CX P w) 2 f fd ["self"] (SpM K G f_Plain_holds 1) :=
  mk_fn F sc_Plain_holds fun cdv A outer s H E d =>
 (ss_one (s_ret (d_lc (own := [("value", 1)]) (t := (.nm 1)) d (i_list (d_fld .row g (d_var 0))) (by rfl) (fun _ _ _ _ _ d => (g_nm d)) (fun _ _ _ _ _ d => (ts_one (t_val (d_call F_is_thing d (a_cons (d_var 1) a_nil))))) (fun _ _ _ _ _ d => (d_ix (d_var 1) d_int)))))
theorem sc_Plain_sort_of : FnScope ["self"] ["self"] (defScope st_Plain_sort_of) := ⟨rfl, rfl, rfl, by decide +kernel, rfl, by decide +kernel, by decide +kernel⟩
theorem ok_Plain_sort_of {f : Addr} {fd : FuncData} (F : Fun K "sort_of" "Plain.sort_of" st_Plain_sort_of f fd) (g : Gok K G) (B : Blt mg)  : FnOk P w K mg base (L2.CX P w) 1 f fd ["self"] (SpM K G f_Plain_sort_of 1) :=
  mk_fn F sc_Plain_sort_of fun cdv A outer s H E d =>
 (ss_one (s_ret d_str))
theorem sc_Plain_words : FnScope ["self"] ["self"] (defScope st_Plain_words) := ⟨rfl, rfl, rfl, by decide +kernel, rfl, by decide +kernel, by decide +kernel⟩
theorem ok_Plain_words {f : Addr} {fd : FuncData} (F : Fun K "words" "Plain.words" st_Plain_words f fd) (g : Gok K G) (B : Blt mg)  : FnOk P w K mg base (L2.CX P w) 1 f fd ["self"] (SpM K G f_Plain_words 1) :=
  mk_fn F sc_Plain_words fun cdv A outer s H E d =>
 (ss_one (s_ret (d_fld .last_words g (d_var 0))))
theorem sc_Thing_fields : FnScope ["self"] ["self"] (defScope st_Thing_fields) := ⟨rfl, rfl, rfl, by decide +kernel, rfl, by decide +kernel, by decide +kernel⟩
theorem ok_Thing_fields {f : Addr} {fd : FuncData} (F : Fun K "fields" "Thing.fields" st_Thing_fields f fd) (g : Gok K G) (B : Blt mg)  : FnOk P w K mg base (L2.CX P w) 1 f fd ["self"] (SpM K G f_Thing_fields 1) :=
  mk_fn F sc_Thing_fields fun cdv A outer s H E d =>
 (ss_one (s_ret (d_callT call_list_of s_list B.list (a_cons (d_fld .row g (d_var 0)) a_nil))))
theorem sc_Thing_holds : FnScope ["self"] ["self"] (defScope st_Thing_holds) := ⟨rfl, rfl, rfl, by decide +kernel, rfl, by decide +kernel, by decide +kernel⟩
theorem ok_Thing_holds {f : Addr} {fd : FuncData} (F : Fun K "holds" "Thing.holds" st_Thing_holds f fd) (g : Gok K G) (B : Blt mg)  : FnOk P w K mg base (L2.CX P w) 1 f fd ["self"] (SpM K G f_Thing_holds 1) :=
  mk_fn F sc_Thing_holds fun cdv A outer s H E d =>
 (ss_one (s_ret (d_lst a_nil)))
theorem sc_Thing_sort_of : FnScope ["self"] ["self"] (defScope st_Thing_sort_of) := ⟨rfl, rfl, rfl, by decide +kernel, rfl, by decide +kernel, by decide +kernel⟩
theorem ok_Thing_sort_of {f : Addr} {fd : FuncData} (F : Fun K "sort_of" "Thing.sort_of" st_Thing_sort_of f fd) (g : Gok K G) (B : Blt mg)  : FnOk P w K mg base (L2.CX P w) 1 f fd ["self"] (SpM K G f_Thing_sort_of 1) :=
  mk_fn F sc_Thing_sort_of fun cdv A outer s H E d =>
 (ss_one (s_ret d_str))
theorem sc_Thing_waits : FnScope ["self"] ["self"] (defScope st_Thing_waits) := ⟨rfl, rfl, rfl, by decide +kernel, rfl, by decide +kernel, by decide +kernel⟩
theorem ok_Thing_waits {f : Addr} {fd : FuncData} (F : Fun K "waits" "Thing.waits" st_Thing_waits f fd) (g : Gok K G) (B : Blt mg)  : FnOk P w K mg base (L2.CX P w) 1 f fd ["self"] (SpM K G f_Thing_waits 1) :=
  mk_fn F sc_Thing_waits fun cdv A outer s H E d =>
 (ss_one (s_ret (d_lst a_nil)))
theorem sc_Thing_words : FnScope ["self"] ["self"] (defScope st_Thing_words) := ⟨rfl, rfl, rfl, by decide +kernel, rfl, by decide +kernel, by decide +kernel⟩
theorem ok_Thing_words {f : Addr} {fd : FuncData} (F : Fun K "words" "Thing.words" st_Thing_words f fd) (g : Gok K G) (B : Blt mg)  : FnOk P w K mg base (L2.CX P w) 1 f fd ["self"] (SpM K G f_Thing_words 1) :=
  mk_fn F sc_Thing_words fun cdv A outer s H E d =>
 (ss_one (s_ret d_non))
theorem sc_law_right : FnScope ["_law_thing", "_law_sort", "_law_fields", "_law_words", "_law_holds_here", "_law_waits", "_law_due", "_law_value"] ["_law_thing", "_law_sort", "_law_fields", "_law_words"] (defScope st_law_right) := ⟨rfl, rfl, rfl, by decide +kernel, rfl, by decide +kernel, by decide +kernel⟩
theorem ok_law_right {f : Addr} {fd : FuncData} (F : Fun K "_law_right" "_law_right" st_law_right f fd) (g : Gok K G) (B : Blt mg) (F_law_alike : FnG P w K mg base G 8 "_law_alike" (f_law_alike 8) 2) (X_Thing_waits : FnC P w K mg base G 1 .Thing "waits" f_Thing_waits 1) (X_Plain_waits : FnC P w K mg base G 1 .Plain "waits" f_Thing_waits 1) (X_Pair_waits : FnC P w K mg base G 2 .Pair "waits" f_Pair_waits 1) (X_Thing_holds : FnC P w K mg base G 1 .Thing "holds" f_Thing_holds 1) (X_Plain_holds : FnC P w K mg base G 2 .Plain "holds" f_Plain_holds 1) (X_Pair_holds : FnC P w K mg base G 1 .Pair "holds" f_Thing_holds 1) (X_Thing_words : FnC P w K mg base G 1 .Thing "words" f_Thing_words 1) (X_Plain_words : FnC P w K mg base G 1 .Plain "words" f_Plain_words 1) (X_Pair_words : FnC P w K mg base G 1 .Pair "words" f_Thing_words 1) (X_Thing_fields : FnC P w K mg base G 1 .Thing "fields" f_Thing_fields 1) (X_Plain_fields : FnC P w K mg base G 1 .Plain "fields" f_Thing_fields 1) (X_Pair_fields : FnC P w K mg base G 1 .Pair "fields" f_Thing_fields 1) (X_Thing_sort_of : FnC P w K mg base G 1 .Thing "sort_of" f_Thing_sort_of 1) (X_Plain_sort_of : FnC P w K mg base G 1 .Plain "sort_of" f_Plain_sort_of 1) (X_Pair_sort_of : FnC P w K mg base G 1 .Pair "sort_of" f_Pair_sort_of 1) : FnOk P w K mg base (L2.CX P w) 9 f fd ["_law_thing", "_law_sort", "_law_fields", "_law_words"] (SpM K G f_law_right 4) :=
  mk_fn F sc_law_right fun cdv A outer s H E d =>
 (ss_cons (s_set d (d_lst a_nil))
 (ss_cons (s_set d (d_lst a_nil))
 (ss_cons (s_if (t_cmp (op_eqU d) s_eq (d_var 1) d_str (nomark _))
 (ss_one (s_setLc (i := 4) (own := [("_law_value", 7)]) (t := (.nm 7)) d (i_list (d_var 2)) (by rfl) (sw_true rfl rfl rfl (by rfl)) (fun _ _ _ _ _ d => (g_nm d)) (fun _ _ _ _ _ d => (ts_one (t_cmp (op_eqU d) s_eq (d_ix (d_var 7) d_int) d_str (nomark _)))) (fun _ _ _ _ _ d => (d_ix (d_var 7) d_int))))
 ss_nil)
 (ss_cons (s_if (PW.pt (t_and (t_cmp (op_eqU d) s_eq (d_var 1) d_str (nomark _)) (t_and1 (t_cmp (op_eqU d) s_eq (d_ix (d_ix (d_var 2) d_int) d_int) d_str (nomark _)))))
 (ss_one (s_set d (d_lst (a_cons (d_tup (a_cons (d_ix (d_ix (d_var 2) d_int) d_int) (a_cons (d_ix (d_var 2) d_int) a_nil))) a_nil))))
 ss_nil)
 (ss_cons (s_set d (d_tup (a_cons (d_var 1) (a_cons (d_var 2) (a_cons (d_var 3) (a_cons (d_var 4) (a_cons (d_var 5) a_nil)))))))
 (ss_one (s_ret (d_call F_law_alike d (a_cons (d_tup (a_cons (d_alt (d_meth0 X_Thing_sort_of g d (d_var 0)) (d_alt (d_meth0 X_Plain_sort_of g d (d_var 0)) (d_meth0 X_Pair_sort_of g d (d_var 0)))) (a_cons (d_alt (d_meth0 X_Thing_fields g d (d_var 0)) (d_alt (d_meth0 X_Plain_fields g d (d_var 0)) (d_meth0 X_Pair_fields g d (d_var 0)))) (a_cons (d_alt (d_meth0 X_Thing_words g d (d_var 0)) (d_alt (d_meth0 X_Plain_words g d (d_var 0)) (d_meth0 X_Pair_words g d (d_var 0)))) (a_cons (d_alt (d_meth0 X_Thing_holds g d (d_var 0)) (d_alt (d_meth0 X_Plain_holds g d (d_var 0)) (d_meth0 X_Pair_holds g d (d_var 0)))) (a_cons (d_alt (d_meth0 X_Thing_waits g d (d_var 0)) (d_alt (d_meth0 X_Plain_waits g d (d_var 0)) (d_meth0 X_Pair_waits g d (d_var 0)))) a_nil)))))) (a_cons (d_var 6) a_nil))))))))))
theorem sc_law_value_by : FnScope ["_law_number"] ["_law_number"] (defScope st_law_value_by) := ⟨rfl, rfl, rfl, by decide +kernel, rfl, by decide +kernel, by decide +kernel⟩
theorem ok_law_value_by {f : Addr} {fd : FuncData} (F : Fun K "_law_value_by" "_law_value_by" st_law_value_by f fd) (g : Gok K G) (B : Blt mg)  : FnOk P w K mg base (L2.CX P w) 1 f fd ["_law_number"] (SpM K G f_law_value_by 1) :=
  mk_fn F sc_law_value_by fun cdv A outer s H E d =>
 (ss_cons (s_if (t_cmp (op_eqU d) s_eq (d_bin op_mod s_mod (d_var 0) d_int) d_int (nomark _))
 (ss_one (s_ret (d_tup (a_cons d_str a_nil))))
 ss_nil)
 (ss_one (s_ret (d_tup (a_cons (d_ix (d_lst (a_cons d_str (a_cons d_str a_nil))) (d_bin op_sub s_sub (d_bin op_mod s_mod (d_var 0) d_int) d_int)) (a_cons (d_ix (d_lst (a_cons (d_bin op_mod s_mod (d_bin op_fdivW s_fdiv (d_var 0) d_int) d_int) (a_cons (d_bin op_mod s_mod (d_bin op_mulU s_mul (d_var 0) d_int) (d_bin op_pow s_pow d_int d_int)) a_nil))) (d_bin op_mod s_mod (d_bin op_fdivW s_fdiv (d_var 0) d_int) d_int)) a_nil))))))
theorem sc_Thing_init : FnScope ["self", "row"] ["self", "row"] (defScope st_Thing_init) := ⟨rfl, rfl, rfl, by decide +kernel, rfl, by decide +kernel, by decide +kernel⟩
theorem ok_Thing_init {f : Addr} {fd : FuncData} (F : Fun K "__init__" "Thing.__init__" st_Thing_init f fd) (g : Gok K G) (B : Blt mg)  : FnOk P w K mg base (L2.CX P w) 1 f fd ["self", "row"] (SpM K G f_Thing_init 2) :=
  mk_fn F sc_Thing_init fun cdv A outer s H E d =>
 (ss_one (s_fld .row g (d_var 0) (d_callT call_list_of s_list B.list (a_cons (d_var 1) a_nil))))
theorem sc_pair : FnScope ["key", "value"] ["key", "value"] (defScope st_pair) := ⟨rfl, rfl, rfl, by decide +kernel, rfl, by decide +kernel, by decide +kernel⟩
theorem ok_pair {f : Addr} {fd : FuncData} (F : Fun K "pair" "pair" st_pair f fd) (g : Gok K G) (B : Blt mg) (M_Pair : FnM P w K mg base G 1 .Pair f_Thing_init 2) : FnOk P w K mg base (L2.CX P w) 3 f fd ["key", "value"] (SpM K G f_pair 2) :=
  mk_fn F sc_pair fun cdv A outer s H E d =>
 (ss_one (s_ret (d_make M_Pair d (a_cons (d_lst (a_cons (d_var 0) (a_cons (d_var 1) a_nil))) a_nil))))
theorem sc_Plain_init : FnScope ["self", "row", "last_words"] ["self", "row", "last_words"] (defScope st_Plain_init) := ⟨rfl, rfl, rfl, by decide +kernel, rfl, by decide +kernel, by decide +kernel⟩
theorem ok_Plain_init {f : Addr} {fd : FuncData} (F : Fun K "__init__" "Plain.__init__" st_Plain_init f fd) (g : Gok K G) (B : Blt mg) (U_Thing___init__ : FnU P w K mg base G 1 .Thing "__init__" f_Thing_init 2) : FnOk P w K mg base (L2.CX P w) 2 f fd ["self", "row", "last_words"] (SpM K G f_Plain_init 3) :=
  mk_fn F sc_Plain_init fun cdv A outer s H E d =>
 (ss_cons (s_expr (d_ucall (c := .Thing) U_Thing___init__ d (a_cons (d_var 0) (a_cons (d_var 1) a_nil))))
 (ss_one (s_fld .last_words g (d_var 0) (d_var 2))))
theorem sc_plain : FnScope ["fields", "words"] ["fields", "words"] (defScope st_plain) := ⟨rfl, rfl, rfl, by decide +kernel, rfl, by decide +kernel, by decide +kernel⟩
theorem ok_plain {f : Addr} {fd : FuncData} (F : Fun K "plain" "plain" st_plain f fd) (g : Gok K G) (B : Blt mg) (M_Plain : FnM P w K mg base G 2 .Plain f_Plain_init 3) : FnOk P w K mg base (L2.CX P w) 4 f fd ["fields", "words"] (SpM K G f_plain 2) :=
  mk_fn F sc_plain fun cdv A outer s H E d =>
 (ss_one (s_ret (d_make M_Plain d (a_cons (d_var 0) (a_cons (d_var 1) a_nil)))))
theorem sc_weak : FnScope ["field"] ["field"] (defScope st_weak) := ⟨rfl, rfl, rfl, by decide +kernel, rfl, by decide +kernel, by decide +kernel⟩
theorem ok_weak {f : Addr} {fd : FuncData} (F : Fun K "weak" "weak" st_weak f fd) (g : Gok K G) (B : Blt mg) (M_Thing : FnM P w K mg base G 1 .Thing f_Thing_init 2) : FnOk P w K mg base (L2.CX P w) 3 f fd ["field"] (SpM K G f_weak 1) :=
  mk_fn F sc_weak fun cdv A outer s H E d =>
 (ss_one (s_ret (d_make M_Thing d (a_cons (d_lst (a_cons (d_var 0) a_nil)) a_nil))))
theorem sc_Plain_with_field : FnScope ["self", "at", "value"] ["self", "at", "value"] (defScope st_Plain_with_field) := ⟨rfl, rfl, rfl, by decide +kernel, rfl, by decide +kernel, by decide +kernel⟩
theorem ok_Plain_with_field {f : Addr} {fd : FuncData} (F : Fun K "with_field" "Plain.with_field" st_Plain_with_field f fd) (g : Gok K G) (B : Blt mg) (M_Plain : FnM P w K mg base G 2 .Plain f_Plain_init 3) : FnOk P w K mg base (L2.CX P w) 4 f fd ["self", "at", "value"] (SpM K G f_Plain_with_field 3) :=
  mk_fn F sc_Plain_with_field fun cdv A outer s H E d =>
 (ss_one (s_ret (d_make M_Plain d (a_cons (d_bin op_addU s_add (d_bin op_addU s_add (d_sl (d_fld .row g (d_var 0)) p_none (p_some (d_var 1))) (d_lst (a_cons (d_var 2) a_nil))) (d_sl (d_fld .row g (d_var 0)) (p_some (d_bin op_addU s_add (d_var 1) d_int)) p_none)) (a_cons (d_fld .last_words g (d_var 0)) a_nil)))))
theorem sc_Plain_with_words : FnScope ["self", "words"] ["self", "words"] (defScope st_Plain_with_words) := ⟨rfl, rfl, rfl, by decide +kernel, rfl, by decide +kernel, by decide +kernel⟩
theorem ok_Plain_with_words {f : Addr} {fd : FuncData} (F : Fun K "with_words" "Plain.with_words" st_Plain_with_words f fd) (g : Gok K G) (B : Blt mg) (M_Plain : FnM P w K mg base G 2 .Plain f_Plain_init 3) : FnOk P w K mg base (L2.CX P w) 4 f fd ["self", "words"] (SpM K G f_Plain_with_words 2) :=
  mk_fn F sc_Plain_with_words fun cdv A outer s H E d =>
 (ss_one (s_ret (d_make M_Plain d (a_cons (d_fld .row g (d_var 0)) (a_cons (d_var 1) a_nil)))))
theorem sc_law_holds : FnScope ["_law_cell", "_law_number", "_law_fields", "_law_words", "_law_handed", "_law_thing", "_law_at", "_law_other", "_law_key", "_law_value", "_law_two", "_law_three", "_law_k"] ["_law_cell"] (defScope st_law_holds) := ⟨rfl, rfl, rfl, by decide +kernel, rfl, by decide +kernel, by decide +kernel⟩
theorem ok_law_holds {f : Addr} {fd : FuncData} (F : Fun K "_law_holds" "_law_holds" st_law_holds f fd) (g : Gok K G) (B : Blt mg) (F_law_value_by : FnG P w K mg base G 1 "_law_value_by" f_law_value_by 1) (F_plain : FnG P w K mg base G 4 "plain" f_plain 2) (X_Thing_fields : FnC P w K mg base G 1 .Thing "fields" f_Thing_fields 1) (X_Plain_fields : FnC P w K mg base G 1 .Plain "fields" f_Thing_fields 1) (X_Pair_fields : FnC P w K mg base G 1 .Pair "fields" f_Thing_fields 1) (X_Thing_holds : FnC P w K mg base G 1 .Thing "holds" f_Thing_holds 1) (X_Plain_holds : FnC P w K mg base G 2 .Plain "holds" f_Plain_holds 1) (X_Pair_holds : FnC P w K mg base G 1 .Pair "holds" f_Thing_holds 1) (I_Thing : IsO K mg G .Thing iso_Thing) (F_law_right : FnG P w K mg base G 9 "_law_right" f_law_right 4) (X_Plain_with_field : FnC P w K mg base G 4 .Plain "with_field" f_Plain_with_field 3) (X_Plain_with_words : FnC P w K mg base G 4 .Plain "with_words" f_Plain_with_words 2) (F_weak : FnG P w K mg base G 3 "weak" f_weak 1) (F_pair : FnG P w K mg base G 3 "pair" f_pair 2) (X_Thing_waits : FnC P w K mg base G 1 .Thing "waits" f_Thing_waits 1) (X_Plain_waits : FnC P w K mg base G 1 .Plain "waits" f_Thing_waits 1) (X_Pair_waits : FnC P w K mg base G 2 .Pair "waits" f_Pair_waits 1) : FnOk P w K mg base (L2.CX P w) 10 f fd ["_law_cell"] (SpM K G f_law_holds 1) :=
  mk_fn F sc_law_holds fun cdv A outer s H E d =>
 (ss_cons (s_set d (d_callB call_abs s_abs B.abs (a_cons (d_var 0) a_nil)))
 (ss_cons (s_setLc (i := 2) (own := [("_law_k", 12)]) (t := (.nm 12)) d (i_rng1 B.range (a_cons (d_bin op_mod s_mod (d_var 1) d_int) a_nil)) (by rfl) (sw_true rfl rfl rfl (by rfl)) (fun _ _ _ _ _ d => (g_nm d)) (fun _ _ _ _ _ d => ts_nil) (fun _ _ _ _ _ d => (d_call F_law_value_by d (a_cons (d_bin op_addU s_add (d_bin op_fdivW s_fdiv (d_var 1) (d_bin op_addU s_add (d_var 12) d_int)) (d_var 12)) a_nil))))
 (ss_cons (s_set d (d_ix (d_lst (a_cons d_non (a_cons (d_bin op_mod s_mod (d_bin op_fdivW s_fdiv (d_var 1) d_int) (d_bin op_pow s_pow d_int d_int)) a_nil))) (d_bin op_mod s_mod (d_bin op_fdivW s_fdiv (d_var 1) d_int) d_int)))
 (ss_cons (s_set d (d_callT call_list_of s_list B.list (a_cons (d_var 2) a_nil)))
 (ss_cons (s_set d (d_call F_plain d (a_cons (d_var 4) (a_cons (d_var 3) a_nil))))
 (ss_cons (s_expr (d_bm PySem.F.plainAttrs_list PySem.F.slot_list_append PySem.F.type_list_append mt_append s_append (fun _ _ _ _ _ em r h => tyL em r h) (d_var 4) (a_cons d_str a_nil)))
 (ss_cons (s_expr (d_bm PySem.F.plainAttrs_list PySem.F.slot_list_append PySem.F.type_list_append mt_append s_append (fun _ _ _ _ _ em r h => tyL em r h) (d_alt (d_meth0 X_Thing_fields g d (d_var 5)) (d_alt (d_meth0 X_Plain_fields g d (d_var 5)) (d_meth0 X_Pair_fields g d (d_var 5)))) (a_cons d_str a_nil)))
 (ss_cons (s_expr (d_bm PySem.F.plainAttrs_list PySem.F.slot_list_append PySem.F.type_list_append mt_append s_append (fun _ _ _ _ _ em r h => tyL em r h) (d_alt (d_meth0 X_Thing_holds g d (d_var 5)) (d_alt (d_meth0 X_Plain_holds g d (d_var 5)) (d_meth0 X_Pair_holds g d (d_var 5)))) (a_cons d_str a_nil)))
 (ss_cons (s_if (PW.pt (t_or (t_not (t_val (d_iso (c := .Thing) B.isinstance I_Thing (d_var 5)))) (t_or1 (t_not (t_val (d_call F_law_right d (a_cons (d_var 5) (a_cons d_str (a_cons (d_var 2) (a_cons (d_var 3) a_nil))))))))))
 (ss_one (s_ret d_bl))
 ss_nil)
 (ss_cons (s_clr [6, 7] (s_if (t_cmp (op_neU d) s_ne (d_var 2) (d_lst a_nil) (nomark _))
 (ss_cons (s_set d (d_bin op_mod s_mod (d_bin op_fdivW s_fdiv (d_var 1) d_int) (d_callB cr_lenU s_len B.len (a_cons (d_var 2) a_nil))))
 (ss_cons (s_set d (d_meth X_Plain_with_field g d (d_var 5) (a_cons (d_var 6) (a_cons (d_tup (a_cons d_str (a_cons d_int a_nil))) a_nil))))
 (ss_one (s_if (t_not (t_val (d_call F_law_right d (a_cons (d_var 7) (a_cons d_str (a_cons (d_bin op_addU s_add (d_bin op_addU s_add (d_sl (d_var 2) p_none (p_some (d_var 6))) (d_lst (a_cons (d_tup (a_cons d_str (a_cons d_int a_nil))) a_nil))) (d_sl (d_var 2) (p_some (d_bin op_addU s_add (d_var 6) d_int)) p_none)) (a_cons (d_var 3) a_nil)))))))
 (ss_one (s_ret d_bl))
 ss_nil))))
 ss_nil))
 (ss_cons (s_if (t_not (t_val (d_call F_law_right d (a_cons (d_meth X_Plain_with_words g d (d_var 5) (a_cons d_int a_nil)) (a_cons d_str (a_cons (d_var 2) (a_cons d_int a_nil)))))))
 (ss_one (s_ret d_bl))
 ss_nil)
 (ss_cons (s_if (t_not (t_val (d_call F_law_right d (a_cons (d_meth X_Plain_with_words g d (d_var 5) (a_cons d_non a_nil)) (a_cons d_str (a_cons (d_var 2) (a_cons d_non a_nil)))))))
 (ss_one (s_ret d_bl))
 ss_nil)
 (ss_cons (s_set d (d_ix (d_lst (a_cons (d_tup (a_cons d_str (a_cons (d_bin op_mod s_mod (d_var 1) d_int) a_nil))) (a_cons (d_tup (a_cons d_str a_nil)) a_nil))) (d_bin op_mod s_mod (d_bin op_fdivW s_fdiv (d_var 1) d_int) d_int)))
 (ss_cons (s_set d (d_call F_law_value_by d (a_cons (d_bin op_fdivW s_fdiv (d_var 1) d_int) a_nil)))
 (ss_cons (s_set d (d_call F_weak d (a_cons (d_var 8) a_nil)))
 (ss_cons (s_set d (d_call F_pair d (a_cons (d_var 8) (a_cons (d_var 9) a_nil))))
 (ss_cons (s_expr (d_bm PySem.F.plainAttrs_list PySem.F.slot_list_append PySem.F.type_list_append mt_append s_append (fun _ _ _ _ _ em r h => tyL em r h) (d_alt (d_meth0 X_Thing_waits g d (d_var 11)) (d_alt (d_meth0 X_Plain_waits g d (d_var 11)) (d_meth0 X_Pair_waits g d (d_var 11)))) (a_cons d_str a_nil)))
 (ss_cons (s_if (PW.pt (t_or (t_not (t_val (d_iso (c := .Thing) B.isinstance I_Thing (d_var 10)))) (t_or (t_not (t_val (d_iso (c := .Thing) B.isinstance I_Thing (d_var 11)))) (t_or1 (t_not (t_val (d_call F_law_right d (a_cons (d_var 5) (a_cons d_str (a_cons (d_var 2) (a_cons (d_var 3) a_nil)))))))))))
 (ss_one (s_ret d_bl))
 ss_nil)
 (ss_one (s_ret (d_and (d_call F_law_right d (a_cons (d_var 10) (a_cons d_str (a_cons (d_lst (a_cons (d_var 8) a_nil)) (a_cons d_non a_nil))))) (d_one (d_call F_law_right d (a_cons (d_var 11) (a_cons d_str (a_cons (d_lst (a_cons (d_var 8) (a_cons (d_var 9) a_nil))) (a_cons d_non a_nil)))))))))))))))))))))))))))
theorem sc_law : FnScope ["_law_script", "_law_cell"] ["_law_script"] (defScope st_law) := ⟨rfl, rfl, rfl, by decide +kernel, rfl, by decide +kernel, by decide +kernel⟩
theorem ok_law {f : Addr} {fd : FuncData} (F : Fun K "law" "law" st_law f fd) (g : Gok K G) (B : Blt mg) (F_law_holds : FnG P w K mg base G 10 "_law_holds" f_law_holds 1) : FnOk P w K mg base (L2.CX P w) 11 f fd ["_law_script"] (SpM K G f_law 1) :=
  mk_fn F sc_law fun cdv A outer s H E d =>
 (ss_cons (s_clr [1] (s_for d (i_list (d_bin op_addU s_add (d_lst (a_cons d_int a_nil)) (d_var 0))) (g_nm d)
 (ss_one (s_clr [1] (s_if (t_not (t_val (d_call F_law_holds d (a_cons (d_var 1) a_nil))))
 (ss_one (s_ret d_bl))
 ss_nil)))))
 (ss_one (s_ret d_bl)))
end
def ga (aPair aPlain aThing : Addr) : Ga where
  cl := fun c => match c with
    | .Pair => aPair
    | .Plain => aPlain
    | .Thing => aThing
    | _ => 0
  has := fun c => match c with
    | .Pair => true
    | .Plain => true
    | .Thing => true
    | _ => false
  xc := fun _ => 0
theorem all_mk {l : PySem.W.OpenLaw} {w : World} {K : PySem.W.Frag} {h : Heap} {mg : Str → Option Value} {fa C_Pair C_Plain C_Thing x_law_alike x_Pair_sort_of x_is_thing x_Pair_waits x_Plain_holds x_Plain_sort_of x_Plain_words x_Thing_fields x_Thing_holds x_Thing_sort_of x_Thing_waits x_Thing_words x_law_right x_law_value_by x_Thing_init x_pair x_Plain_init x_plain x_weak x_Plain_with_field x_Plain_with_words x_law_holds x_law : Addr} (X : K.In h) (Gn : h.Ns mainGlobals mg) (hfa : mg "law" = some (.ref fa))
    {od_law_alike an_law_alike od_Pair_sort_of an_Pair_sort_of od_is_thing an_is_thing od_Pair_waits an_Pair_waits od_Plain_holds an_Plain_holds od_Plain_sort_of an_Plain_sort_of od_Plain_words an_Plain_words od_Thing_fields an_Thing_fields od_Thing_holds an_Thing_holds od_Thing_sort_of an_Thing_sort_of od_Thing_waits an_Thing_waits od_Thing_words an_Thing_words od_law_right an_law_right od_law_value_by an_law_value_by od_Thing_init an_Thing_init od_pair an_pair od_Plain_init an_Plain_init od_plain an_plain od_weak an_weak od_Plain_with_field an_Plain_with_field od_Plain_with_words an_Plain_with_words od_law_holds an_law_holds od_law an_law : Option Addr} {sl_law_alike sl_Pair_sort_of sl_is_thing sl_Pair_waits sl_Plain_holds sl_Plain_sort_of sl_Plain_words sl_Thing_fields sl_Thing_holds sl_Thing_sort_of sl_Thing_waits sl_Thing_words sl_law_right sl_law_value_by sl_Thing_init sl_pair sl_Plain_init sl_plain sl_weak sl_Plain_with_field sl_Plain_with_words sl_law_holds sl_law : Array (Option Value)} {oc_law_alike kV_law_alike dc_law_alike pm_law_alike cd_law_alike ct_law_alike oc_Pair_sort_of kV_Pair_sort_of dc_Pair_sort_of pm_Pair_sort_of cd_Pair_sort_of ct_Pair_sort_of oc_is_thing kV_is_thing dc_is_thing pm_is_thing cd_is_thing ct_is_thing oc_Pair_waits kV_Pair_waits dc_Pair_waits pm_Pair_waits cd_Pair_waits ct_Pair_waits oc_Plain_holds kV_Plain_holds dc_Plain_holds pm_Plain_holds cd_Plain_holds ct_Plain_holds oc_Plain_sort_of kV_Plain_sort_of dc_Plain_sort_of pm_Plain_sort_of cd_Plain_sort_of ct_Plain_sort_of oc_Plain_words kV_Plain_words dc_Plain_words pm_Plain_words cd_Plain_words ct_Plain_words oc_Thing_fields kV_Thing_fields dc_Thing_fields pm_Thing_fields cd_Thing_fields ct_Thing_fields oc_Thing_holds kV_Thing_holds dc_Thing_holds pm_Thing_holds cd_Thing_holds ct_Thing_holds oc_Thing_sort_of kV_Thing_sort_of dc_Thing_sort_of pm_Thing_sort_of cd_Thing_sort_of ct_Thing_sort_of oc_Thing_waits kV_Thing_waits dc_Thing_waits pm_Thing_waits cd_Thing_waits ct_Thing_waits oc_Thing_words kV_Thing_words dc_Thing_words pm_Thing_words cd_Thing_words ct_Thing_words oc_law_right kV_law_right dc_law_right pm_law_right cd_law_right ct_law_right oc_law_value_by kV_law_value_by dc_law_value_by pm_law_value_by cd_law_value_by ct_law_value_by oc_Thing_init kV_Thing_init dc_Thing_init pm_Thing_init cd_Thing_init ct_Thing_init oc_pair kV_pair dc_pair pm_pair cd_pair ct_pair oc_Plain_init kV_Plain_init dc_Plain_init pm_Plain_init cd_Plain_init ct_Plain_init oc_plain kV_plain dc_plain pm_plain cd_plain ct_plain oc_weak kV_weak dc_weak pm_weak cd_weak ct_weak oc_Plain_with_field kV_Plain_with_field dc_Plain_with_field pm_Plain_with_field cd_Plain_with_field ct_Plain_with_field oc_Plain_with_words kV_Plain_with_words dc_Plain_with_words pm_Plain_with_words cd_Plain_with_words ct_Plain_with_words oc_law_holds kV_law_holds dc_law_holds pm_law_holds cd_law_holds ct_law_holds oc_law kV_law dc_law pm_law cd_law ct_law : Value}
    (aC_Pair : PySem.W.nsIn K mainGlobals "Pair" = some (some (.ref C_Pair)))
    (pg_Pair : PySem.W.plainGet K C_Pair Str.empty = true)
    (hd_Pair : PySem.W.hasDictIn K C_Pair = true)
    (po_Pair : PySem.W.plainOver K C_Pair = true)
    (sa_Pair : PySem.W.findIn K (.ref C_Pair) "__setattr__" = some (some (.builtin "object.__setattr__")))
    (mk_Pair : PySem.W.makesIn K C_Pair = true)
    (kc_Pair : PySem.W.keepIn K (.ref C_Pair) = true)
    (n_Pair_row : PySem.W.findIn K (.ref C_Pair) "row" = some none)
    (aC_Plain : PySem.W.nsIn K mainGlobals "Plain" = some (some (.ref C_Plain)))
    (pg_Plain : PySem.W.plainGet K C_Plain Str.empty = true)
    (hd_Plain : PySem.W.hasDictIn K C_Plain = true)
    (po_Plain : PySem.W.plainOver K C_Plain = true)
    (sa_Plain : PySem.W.findIn K (.ref C_Plain) "__setattr__" = some (some (.builtin "object.__setattr__")))
    (mk_Plain : PySem.W.makesIn K C_Plain = true)
    (kc_Plain : PySem.W.keepIn K (.ref C_Plain) = true)
    (n_Plain_row : PySem.W.findIn K (.ref C_Plain) "row" = some none)
    (n_Plain_last_words : PySem.W.findIn K (.ref C_Plain) "last_words" = some none)
    (aC_Thing : PySem.W.nsIn K mainGlobals "Thing" = some (some (.ref C_Thing)))
    (pg_Thing : PySem.W.plainGet K C_Thing Str.empty = true)
    (hd_Thing : PySem.W.hasDictIn K C_Thing = true)
    (po_Thing : PySem.W.plainOver K C_Thing = true)
    (sa_Thing : PySem.W.findIn K (.ref C_Thing) "__setattr__" = some (some (.builtin "object.__setattr__")))
    (mk_Thing : PySem.W.makesIn K C_Thing = true)
    (kc_Thing : PySem.W.keepIn K (.ref C_Thing) = true)
    (n_Thing_row : PySem.W.findIn K (.ref C_Thing) "row" = some none)
    (g_law_alike : PySem.W.nsIn K mainGlobals "_law_alike" = some (some (.ref x_law_alike)))
    (l_law_alike : K.lookup x_law_alike = some ⟨oc_law_alike, od_law_alike, .func (PySem.W.fnOf "_law_alike" "_law_alike" (defArgs st_law_alike) (defBody st_law_alike) (defScope st_law_alike) .none kV_law_alike dc_law_alike pm_law_alike an_law_alike cd_law_alike ct_law_alike), sl_law_alike⟩)
    (c_law_alike' : PySem.W.codeIn K cd_law_alike "_law_alike" = true)
    (k_law_alike : PySem.W.keepIn K (.ref x_law_alike) = true)
    (l_Pair_sort_of : K.lookup x_Pair_sort_of = some ⟨oc_Pair_sort_of, od_Pair_sort_of, .func (PySem.W.fnOf "sort_of" "Pair.sort_of" (defArgs st_Pair_sort_of) (defBody st_Pair_sort_of) (defScope st_Pair_sort_of) .none kV_Pair_sort_of dc_Pair_sort_of pm_Pair_sort_of an_Pair_sort_of cd_Pair_sort_of ct_Pair_sort_of), sl_Pair_sort_of⟩)
    (c_Pair_sort_of' : PySem.W.codeIn K cd_Pair_sort_of "Pair.sort_of" = true)
    (k_Pair_sort_of : PySem.W.keepIn K (.ref x_Pair_sort_of) = true)
    (i_Pair_sort_of : PySem.W.isFn K (.ref x_Pair_sort_of) = true)
    (g_is_thing : PySem.W.nsIn K mainGlobals "is_thing" = some (some (.ref x_is_thing)))
    (l_is_thing : K.lookup x_is_thing = some ⟨oc_is_thing, od_is_thing, .func (PySem.W.fnOf "is_thing" "is_thing" (defArgs st_is_thing) (defBody st_is_thing) (defScope st_is_thing) .none kV_is_thing dc_is_thing pm_is_thing an_is_thing cd_is_thing ct_is_thing), sl_is_thing⟩)
    (c_is_thing' : PySem.W.codeIn K cd_is_thing "is_thing" = true)
    (k_is_thing : PySem.W.keepIn K (.ref x_is_thing) = true)
    (l_Pair_waits : K.lookup x_Pair_waits = some ⟨oc_Pair_waits, od_Pair_waits, .func (PySem.W.fnOf "waits" "Pair.waits" (defArgs st_Pair_waits) (defBody st_Pair_waits) (defScope st_Pair_waits) .none kV_Pair_waits dc_Pair_waits pm_Pair_waits an_Pair_waits cd_Pair_waits ct_Pair_waits), sl_Pair_waits⟩)
    (c_Pair_waits' : PySem.W.codeIn K cd_Pair_waits "Pair.waits" = true)
    (k_Pair_waits : PySem.W.keepIn K (.ref x_Pair_waits) = true)
    (i_Pair_waits : PySem.W.isFn K (.ref x_Pair_waits) = true)
    (l_Plain_holds : K.lookup x_Plain_holds = some ⟨oc_Plain_holds, od_Plain_holds, .func (PySem.W.fnOf "holds" "Plain.holds" (defArgs st_Plain_holds) (defBody st_Plain_holds) (defScope st_Plain_holds) .none kV_Plain_holds dc_Plain_holds pm_Plain_holds an_Plain_holds cd_Plain_holds ct_Plain_holds), sl_Plain_holds⟩)
    (c_Plain_holds' : PySem.W.codeIn K cd_Plain_holds "Plain.holds" = true)
    (k_Plain_holds : PySem.W.keepIn K (.ref x_Plain_holds) = true)
    (i_Plain_holds : PySem.W.isFn K (.ref x_Plain_holds) = true)
    (l_Plain_sort_of : K.lookup x_Plain_sort_of = some ⟨oc_Plain_sort_of, od_Plain_sort_of, .func (PySem.W.fnOf "sort_of" "Plain.sort_of" (defArgs st_Plain_sort_of) (defBody st_Plain_sort_of) (defScope st_Plain_sort_of) .none kV_Plain_sort_of dc_Plain_sort_of pm_Plain_sort_of an_Plain_sort_of cd_Plain_sort_of ct_Plain_sort_of), sl_Plain_sort_of⟩)
    (c_Plain_sort_of' : PySem.W.codeIn K cd_Plain_sort_of "Plain.sort_of" = true)
    (k_Plain_sort_of : PySem.W.keepIn K (.ref x_Plain_sort_of) = true)
    (i_Plain_sort_of : PySem.W.isFn K (.ref x_Plain_sort_of) = true)
    (l_Plain_words : K.lookup x_Plain_words = some ⟨oc_Plain_words, od_Plain_words, .func (PySem.W.fnOf "words" "Plain.words" (defArgs st_Plain_words) (defBody st_Plain_words) (defScope st_Plain_words) .none kV_Plain_words dc_Plain_words pm_Plain_words an_Plain_words cd_Plain_words ct_Plain_words), sl_Plain_words⟩)
    (c_Plain_words' : PySem.W.codeIn K cd_Plain_words "Plain.words" = true)
    (k_Plain_words : PySem.W.keepIn K (.ref x_Plain_words) = true)
    (i_Plain_words : PySem.W.isFn K (.ref x_Plain_words) = true)
    (l_Thing_fields : K.lookup x_Thing_fields = some ⟨oc_Thing_fields, od_Thing_fields, .func (PySem.W.fnOf "fields" "Thing.fields" (defArgs st_Thing_fields) (defBody st_Thing_fields) (defScope st_Thing_fields) .none kV_Thing_fields dc_Thing_fields pm_Thing_fields an_Thing_fields cd_Thing_fields ct_Thing_fields), sl_Thing_fields⟩)
    (c_Thing_fields' : PySem.W.codeIn K cd_Thing_fields "Thing.fields" = true)
    (k_Thing_fields : PySem.W.keepIn K (.ref x_Thing_fields) = true)
    (i_Thing_fields : PySem.W.isFn K (.ref x_Thing_fields) = true)
    (l_Thing_holds : K.lookup x_Thing_holds = some ⟨oc_Thing_holds, od_Thing_holds, .func (PySem.W.fnOf "holds" "Thing.holds" (defArgs st_Thing_holds) (defBody st_Thing_holds) (defScope st_Thing_holds) .none kV_Thing_holds dc_Thing_holds pm_Thing_holds an_Thing_holds cd_Thing_holds ct_Thing_holds), sl_Thing_holds⟩)
    (c_Thing_holds' : PySem.W.codeIn K cd_Thing_holds "Thing.holds" = true)
    (k_Thing_holds : PySem.W.keepIn K (.ref x_Thing_holds) = true)
    (i_Thing_holds : PySem.W.isFn K (.ref x_Thing_holds) = true)
    (l_Thing_sort_of : K.lookup x_Thing_sort_of = some ⟨oc_Thing_sort_of, od_Thing_sort_of, .func (PySem.W.fnOf "sort_of" "Thing.sort_of" (defArgs st_Thing_sort_of) (defBody st_Thing_sort_of) (defScope st_Thing_sort_of) .none kV_Thing_sort_of dc_Thing_sort_of pm_Thing_sort_of an_Thing_sort_of cd_Thing_sort_of ct_Thing_sort_of), sl_Thing_sort_of⟩)
    (c_Thing_sort_of' : PySem.W.codeIn K cd_Thing_sort_of "Thing.sort_of" = true)
    (k_Thing_sort_of : PySem.W.keepIn K (.ref x_Thing_sort_of) = true)
    (i_Thing_sort_of : PySem.W.isFn K (.ref x_Thing_sort_of) = true)
    (l_Thing_waits : K.lookup x_Thing_waits = some ⟨oc_Thing_waits, od_Thing_waits, .func (PySem.W.fnOf "waits" "Thing.waits" (defArgs st_Thing_waits) (defBody st_Thing_waits) (defScope st_Thing_waits) .none kV_Thing_waits dc_Thing_waits pm_Thing_waits an_Thing_waits cd_Thing_waits ct_Thing_waits), sl_Thing_waits⟩)
    (c_Thing_waits' : PySem.W.codeIn K cd_Thing_waits "Thing.waits" = true)
    (k_Thing_waits : PySem.W.keepIn K (.ref x_Thing_waits) = true)
    (i_Thing_waits : PySem.W.isFn K (.ref x_Thing_waits) = true)
    (l_Thing_words : K.lookup x_Thing_words = some ⟨oc_Thing_words, od_Thing_words, .func (PySem.W.fnOf "words" "Thing.words" (defArgs st_Thing_words) (defBody st_Thing_words) (defScope st_Thing_words) .none kV_Thing_words dc_Thing_words pm_Thing_words an_Thing_words cd_Thing_words ct_Thing_words), sl_Thing_words⟩)
    (c_Thing_words' : PySem.W.codeIn K cd_Thing_words "Thing.words" = true)
    (k_Thing_words : PySem.W.keepIn K (.ref x_Thing_words) = true)
    (i_Thing_words : PySem.W.isFn K (.ref x_Thing_words) = true)
    (g_law_right : PySem.W.nsIn K mainGlobals "_law_right" = some (some (.ref x_law_right)))
    (l_law_right : K.lookup x_law_right = some ⟨oc_law_right, od_law_right, .func (PySem.W.fnOf "_law_right" "_law_right" (defArgs st_law_right) (defBody st_law_right) (defScope st_law_right) .none kV_law_right dc_law_right pm_law_right an_law_right cd_law_right ct_law_right), sl_law_right⟩)
    (c_law_right' : PySem.W.codeIn K cd_law_right "_law_right" = true)
    (k_law_right : PySem.W.keepIn K (.ref x_law_right) = true)
    (g_law_value_by : PySem.W.nsIn K mainGlobals "_law_value_by" = some (some (.ref x_law_value_by)))
    (l_law_value_by : K.lookup x_law_value_by = some ⟨oc_law_value_by, od_law_value_by, .func (PySem.W.fnOf "_law_value_by" "_law_value_by" (defArgs st_law_value_by) (defBody st_law_value_by) (defScope st_law_value_by) .none kV_law_value_by dc_law_value_by pm_law_value_by an_law_value_by cd_law_value_by ct_law_value_by), sl_law_value_by⟩)
    (c_law_value_by' : PySem.W.codeIn K cd_law_value_by "_law_value_by" = true)
    (k_law_value_by : PySem.W.keepIn K (.ref x_law_value_by) = true)
    (l_Thing_init : K.lookup x_Thing_init = some ⟨oc_Thing_init, od_Thing_init, .func (PySem.W.fnOf "__init__" "Thing.__init__" (defArgs st_Thing_init) (defBody st_Thing_init) (defScope st_Thing_init) .none kV_Thing_init dc_Thing_init pm_Thing_init an_Thing_init cd_Thing_init ct_Thing_init), sl_Thing_init⟩)
    (c_Thing_init' : PySem.W.codeIn K cd_Thing_init "Thing.__init__" = true)
    (k_Thing_init : PySem.W.keepIn K (.ref x_Thing_init) = true)
    (i_Thing_init : PySem.W.isFn K (.ref x_Thing_init) = true)
    (g_pair : PySem.W.nsIn K mainGlobals "pair" = some (some (.ref x_pair)))
    (l_pair : K.lookup x_pair = some ⟨oc_pair, od_pair, .func (PySem.W.fnOf "pair" "pair" (defArgs st_pair) (defBody st_pair) (defScope st_pair) .none kV_pair dc_pair pm_pair an_pair cd_pair ct_pair), sl_pair⟩)
    (c_pair' : PySem.W.codeIn K cd_pair "pair" = true)
    (k_pair : PySem.W.keepIn K (.ref x_pair) = true)
    (l_Plain_init : K.lookup x_Plain_init = some ⟨oc_Plain_init, od_Plain_init, .func (PySem.W.fnOf "__init__" "Plain.__init__" (defArgs st_Plain_init) (defBody st_Plain_init) (defScope st_Plain_init) .none kV_Plain_init dc_Plain_init pm_Plain_init an_Plain_init cd_Plain_init ct_Plain_init), sl_Plain_init⟩)
    (c_Plain_init' : PySem.W.codeIn K cd_Plain_init "Plain.__init__" = true)
    (k_Plain_init : PySem.W.keepIn K (.ref x_Plain_init) = true)
    (i_Plain_init : PySem.W.isFn K (.ref x_Plain_init) = true)
    (g_plain : PySem.W.nsIn K mainGlobals "plain" = some (some (.ref x_plain)))
    (l_plain : K.lookup x_plain = some ⟨oc_plain, od_plain, .func (PySem.W.fnOf "plain" "plain" (defArgs st_plain) (defBody st_plain) (defScope st_plain) .none kV_plain dc_plain pm_plain an_plain cd_plain ct_plain), sl_plain⟩)
    (c_plain' : PySem.W.codeIn K cd_plain "plain" = true)
    (k_plain : PySem.W.keepIn K (.ref x_plain) = true)
    (g_weak : PySem.W.nsIn K mainGlobals "weak" = some (some (.ref x_weak)))
    (l_weak : K.lookup x_weak = some ⟨oc_weak, od_weak, .func (PySem.W.fnOf "weak" "weak" (defArgs st_weak) (defBody st_weak) (defScope st_weak) .none kV_weak dc_weak pm_weak an_weak cd_weak ct_weak), sl_weak⟩)
    (c_weak' : PySem.W.codeIn K cd_weak "weak" = true)
    (k_weak : PySem.W.keepIn K (.ref x_weak) = true)
    (l_Plain_with_field : K.lookup x_Plain_with_field = some ⟨oc_Plain_with_field, od_Plain_with_field, .func (PySem.W.fnOf "with_field" "Plain.with_field" (defArgs st_Plain_with_field) (defBody st_Plain_with_field) (defScope st_Plain_with_field) .none kV_Plain_with_field dc_Plain_with_field pm_Plain_with_field an_Plain_with_field cd_Plain_with_field ct_Plain_with_field), sl_Plain_with_field⟩)
    (c_Plain_with_field' : PySem.W.codeIn K cd_Plain_with_field "Plain.with_field" = true)
    (k_Plain_with_field : PySem.W.keepIn K (.ref x_Plain_with_field) = true)
    (i_Plain_with_field : PySem.W.isFn K (.ref x_Plain_with_field) = true)
    (l_Plain_with_words : K.lookup x_Plain_with_words = some ⟨oc_Plain_with_words, od_Plain_with_words, .func (PySem.W.fnOf "with_words" "Plain.with_words" (defArgs st_Plain_with_words) (defBody st_Plain_with_words) (defScope st_Plain_with_words) .none kV_Plain_with_words dc_Plain_with_words pm_Plain_with_words an_Plain_with_words cd_Plain_with_words ct_Plain_with_words), sl_Plain_with_words⟩)
    (c_Plain_with_words' : PySem.W.codeIn K cd_Plain_with_words "Plain.with_words" = true)
    (k_Plain_with_words : PySem.W.keepIn K (.ref x_Plain_with_words) = true)
    (i_Plain_with_words : PySem.W.isFn K (.ref x_Plain_with_words) = true)
    (g_law_holds : PySem.W.nsIn K mainGlobals "_law_holds" = some (some (.ref x_law_holds)))
    (l_law_holds : K.lookup x_law_holds = some ⟨oc_law_holds, od_law_holds, .func (PySem.W.fnOf "_law_holds" "_law_holds" (defArgs st_law_holds) (defBody st_law_holds) (defScope st_law_holds) .none kV_law_holds dc_law_holds pm_law_holds an_law_holds cd_law_holds ct_law_holds), sl_law_holds⟩)
    (c_law_holds' : PySem.W.codeIn K cd_law_holds "_law_holds" = true)
    (k_law_holds : PySem.W.keepIn K (.ref x_law_holds) = true)
    (g_law : PySem.W.nsIn K mainGlobals "law" = some (some (.ref x_law)))
    (l_law : K.lookup x_law = some ⟨oc_law, od_law, .func (PySem.W.fnOf "law" "law" (defArgs st_law) (defBody st_law) (defScope st_law) .none kV_law dc_law pm_law an_law cd_law ct_law), sl_law⟩)
    (c_law' : PySem.W.codeIn K cd_law "law" = true)
    (k_law : PySem.W.keepIn K (.ref x_law) = true)
    (f_Pair_init' : PySem.W.findIn K (.ref C_Pair) "__init__" = some (some (.ref x_Thing_init)))
    (f_Pair_fields' : PySem.W.findIn K (.ref C_Pair) "fields" = some (some (.ref x_Thing_fields)))
    (f_Pair_holds' : PySem.W.findIn K (.ref C_Pair) "holds" = some (some (.ref x_Thing_holds)))
    (f_Pair_sort_of' : PySem.W.findIn K (.ref C_Pair) "sort_of" = some (some (.ref x_Pair_sort_of)))
    (f_Pair_waits' : PySem.W.findIn K (.ref C_Pair) "waits" = some (some (.ref x_Pair_waits)))
    (f_Pair_words' : PySem.W.findIn K (.ref C_Pair) "words" = some (some (.ref x_Thing_words)))
    (f_Plain_init' : PySem.W.findIn K (.ref C_Plain) "__init__" = some (some (.ref x_Plain_init)))
    (f_Plain_fields' : PySem.W.findIn K (.ref C_Plain) "fields" = some (some (.ref x_Thing_fields)))
    (f_Plain_holds' : PySem.W.findIn K (.ref C_Plain) "holds" = some (some (.ref x_Plain_holds)))
    (f_Plain_sort_of' : PySem.W.findIn K (.ref C_Plain) "sort_of" = some (some (.ref x_Plain_sort_of)))
    (f_Plain_waits' : PySem.W.findIn K (.ref C_Plain) "waits" = some (some (.ref x_Thing_waits)))
    (f_Plain_with_field' : PySem.W.findIn K (.ref C_Plain) "with_field" = some (some (.ref x_Plain_with_field)))
    (f_Plain_with_words' : PySem.W.findIn K (.ref C_Plain) "with_words" = some (some (.ref x_Plain_with_words)))
    (f_Plain_words' : PySem.W.findIn K (.ref C_Plain) "words" = some (some (.ref x_Plain_words)))
    (f_Thing_init' : PySem.W.findIn K (.ref C_Thing) "__init__" = some (some (.ref x_Thing_init)))
    (f_Thing_fields' : PySem.W.findIn K (.ref C_Thing) "fields" = some (some (.ref x_Thing_fields)))
    (f_Thing_holds' : PySem.W.findIn K (.ref C_Thing) "holds" = some (some (.ref x_Thing_holds)))
    (f_Thing_sort_of' : PySem.W.findIn K (.ref C_Thing) "sort_of" = some (some (.ref x_Thing_sort_of)))
    (f_Thing_waits' : PySem.W.findIn K (.ref C_Thing) "waits" = some (some (.ref x_Thing_waits)))
    (f_Thing_words' : PySem.W.findIn K (.ref C_Thing) "words" = some (some (.ref x_Thing_words)))
    (rd_Thing : PySem.W.readsIn K C_Thing (.type "type") = true)
    (ga_Thing : PySem.W.specialIn K (.ref C_Thing) "__getattribute__" = some (some (.builtin "type.__getattribute__")))
    (u_Thing_init : PySem.W.findCls K (.ref C_Thing) (.type "type") "__init__" = some (.val (.ref x_Thing_init)))
    (hn_cls : PySem.W.specialIn K (.builtin "object.__class__") "__get__" = some (some (.builtin "getset_descriptor.__get__")))
    (tk_cls : PySem.W.takesIn K (.builtin "object.__class__") = some true)
    (cc_Pair : PySem.W.findIn K (.ref C_Pair) "__class__" = some (some (.builtin "object.__class__")))
    (mo_Pair : PySem.W.mroIn K C_Pair (.type "object") = some true)
    (cc_Plain : PySem.W.findIn K (.ref C_Plain) "__class__" = some (some (.builtin "object.__class__")))
    (mo_Plain : PySem.W.mroIn K C_Plain (.type "object") = some true)
    (cc_Thing : PySem.W.findIn K (.ref C_Thing) "__class__" = some (some (.builtin "object.__class__")))
    (mo_Thing : PySem.W.mroIn K C_Thing (.type "object") = some true)
    (ki_Pair_Thing : PySem.W.kitOne K (.ref C_Pair) (.ref C_Thing) = some true)
    (ki_Plain_Thing : PySem.W.kitOne K (.ref C_Plain) (.ref C_Thing) = some true)
    (ki_Thing_Thing : PySem.W.kitOne K (.ref C_Thing) (.ref C_Thing) = some true)
    (kt_Thing_NoneType : PySem.W.kitOne K (.type "NoneType") (.ref C_Thing) = some false)
    (kt_Thing_bool : PySem.W.kitOne K (.type "bool") (.ref C_Thing) = some false)
    (kt_Thing_int : PySem.W.kitOne K (.type "int") (.ref C_Thing) = some false)
    (kt_Thing_str : PySem.W.kitOne K (.type "str") (.ref C_Thing) = some false)
    (kt_Thing_tuple : PySem.W.kitOne K (.type "tuple") (.ref C_Thing) = some false)
    (kt_Thing_list : PySem.W.kitOne K (.type "list") (.ref C_Thing) = some false)
    (kt_Thing_dict : PySem.W.kitOne K (.type "dict") (.ref C_Thing) = some false)
    (z_abs : PySem.W.nsIn K mainGlobals "abs" = some none)
    (z_bool : PySem.W.nsIn K mainGlobals "bool" = some none)
    (z_dict : PySem.W.nsIn K mainGlobals "dict" = some none)
    (z_int : PySem.W.nsIn K mainGlobals "int" = some none)
    (z_isinstance : PySem.W.nsIn K mainGlobals "isinstance" = some none)
    (z_len : PySem.W.nsIn K mainGlobals "len" = some none)
    (z_list : PySem.W.nsIn K mainGlobals "list" = some none)
    (z_range : PySem.W.nsIn K mainGlobals "range" = some none)
    (z_str : PySem.W.nsIn K mainGlobals "str" = some none)
    (z_tuple : PySem.W.nsIn K mainGlobals "tuple" = some none)
    (hlaw : ∀ ns : List Int, ns.length ≤ 63 → (∀ z ∈ ns, Builtin.Int.intBits z ≤ 1048576) → ∃ S', f_law [.loc 0] (scriptS ns) = .ok (.bl true) S') :
    ∃ (fd : FuncData) (G : Ga), (∀ (s : Shared) (v : Value), BindsTo s fd ⟨[v], []⟩ [("_law_script", v)]) ∧ ∀ base : Heap, K.In base → base.Ns mainGlobals mg → FnOk l.prog w K mg base (L2.CX l.prog w) 11 fa fd ["_law_script"] (SpM K G f_law 1) := by
  have e := hfa.symm.trans (PySem.W.mg_of X Gn g_law)
  cases e
  have g : Gok K (ga C_Pair C_Plain C_Thing) := by
    refine ⟨fun c hc => ?_, fun c f hc hf => ?_⟩
    · cases c <;> first | exact absurd (show false = true from hc) Bool.false_ne_true | skip
      · exact ⟨pg_Thing, hd_Thing, po_Thing, sa_Thing⟩
      · exact ⟨pg_Plain, hd_Plain, po_Plain, sa_Plain⟩
      · exact ⟨pg_Pair, hd_Pair, po_Pair, sa_Pair⟩
    · cases c <;> (first | exact absurd (show false = true from hc) Bool.false_ne_true | skip) <;> cases f <;> first | exact absurd (show false = true from hf) Bool.false_ne_true | exact n_Pair_row | exact n_Plain_row | exact n_Plain_last_words | exact n_Thing_row
  have B : Blt mg := ⟨PySem.W.mg_none_of X Gn z_abs, PySem.W.mg_none_of X Gn z_bool, PySem.W.mg_none_of X Gn z_dict, PySem.W.mg_none_of X Gn z_int, PySem.W.mg_none_of X Gn z_isinstance, PySem.W.mg_none_of X Gn z_len, PySem.W.mg_none_of X Gn z_list, PySem.W.mg_none_of X Gn z_range, PySem.W.mg_none_of X Gn z_str, PySem.W.mg_none_of X Gn z_tuple⟩
  have F'law_alike := fun_mk (st := st_law_alike) l_law_alike c_law_alike' k_law_alike
  have b'law_alike := F'law_alike.binds (ps := ["_law_found", "_law_due"]) fun _ _ _ _ _ _ us hl => match us, hl with | [_, _], _ => rfl
  have F'Pair_sort_of := fun_mk (st := st_Pair_sort_of) l_Pair_sort_of c_Pair_sort_of' k_Pair_sort_of
  have b'Pair_sort_of := F'Pair_sort_of.binds (ps := ["self"]) fun _ _ _ _ _ _ us hl => match us, hl with | [_], _ => rfl
  have F'is_thing := fun_mk (st := st_is_thing) l_is_thing c_is_thing' k_is_thing
  have b'is_thing := F'is_thing.binds (ps := ["value"]) fun _ _ _ _ _ _ us hl => match us, hl with | [_], _ => rfl
  have F'Pair_waits := fun_mk (st := st_Pair_waits) l_Pair_waits c_Pair_waits' k_Pair_waits
  have b'Pair_waits := F'Pair_waits.binds (ps := ["self"]) fun _ _ _ _ _ _ us hl => match us, hl with | [_], _ => rfl
  have F'Plain_holds := fun_mk (st := st_Plain_holds) l_Plain_holds c_Plain_holds' k_Plain_holds
  have b'Plain_holds := F'Plain_holds.binds (ps := ["self"]) fun _ _ _ _ _ _ us hl => match us, hl with | [_], _ => rfl
  have F'Plain_sort_of := fun_mk (st := st_Plain_sort_of) l_Plain_sort_of c_Plain_sort_of' k_Plain_sort_of
  have b'Plain_sort_of := F'Plain_sort_of.binds (ps := ["self"]) fun _ _ _ _ _ _ us hl => match us, hl with | [_], _ => rfl
  have F'Plain_words := fun_mk (st := st_Plain_words) l_Plain_words c_Plain_words' k_Plain_words
  have b'Plain_words := F'Plain_words.binds (ps := ["self"]) fun _ _ _ _ _ _ us hl => match us, hl with | [_], _ => rfl
  have F'Thing_fields := fun_mk (st := st_Thing_fields) l_Thing_fields c_Thing_fields' k_Thing_fields
  have b'Thing_fields := F'Thing_fields.binds (ps := ["self"]) fun _ _ _ _ _ _ us hl => match us, hl with | [_], _ => rfl
  have F'Thing_holds := fun_mk (st := st_Thing_holds) l_Thing_holds c_Thing_holds' k_Thing_holds
  have b'Thing_holds := F'Thing_holds.binds (ps := ["self"]) fun _ _ _ _ _ _ us hl => match us, hl with | [_], _ => rfl
  have F'Thing_sort_of := fun_mk (st := st_Thing_sort_of) l_Thing_sort_of c_Thing_sort_of' k_Thing_sort_of
  have b'Thing_sort_of := F'Thing_sort_of.binds (ps := ["self"]) fun _ _ _ _ _ _ us hl => match us, hl with | [_], _ => rfl
  have F'Thing_waits := fun_mk (st := st_Thing_waits) l_Thing_waits c_Thing_waits' k_Thing_waits
  have b'Thing_waits := F'Thing_waits.binds (ps := ["self"]) fun _ _ _ _ _ _ us hl => match us, hl with | [_], _ => rfl
  have F'Thing_words := fun_mk (st := st_Thing_words) l_Thing_words c_Thing_words' k_Thing_words
  have b'Thing_words := F'Thing_words.binds (ps := ["self"]) fun _ _ _ _ _ _ us hl => match us, hl with | [_], _ => rfl
  have F'law_right := fun_mk (st := st_law_right) l_law_right c_law_right' k_law_right
  have b'law_right := F'law_right.binds (ps := ["_law_thing", "_law_sort", "_law_fields", "_law_words"]) fun _ _ _ _ _ _ us hl => match us, hl with | [_, _, _, _], _ => rfl
  have F'law_value_by := fun_mk (st := st_law_value_by) l_law_value_by c_law_value_by' k_law_value_by
  have b'law_value_by := F'law_value_by.binds (ps := ["_law_number"]) fun _ _ _ _ _ _ us hl => match us, hl with | [_], _ => rfl
  have F'Thing_init := fun_mk (st := st_Thing_init) l_Thing_init c_Thing_init' k_Thing_init
  have b'Thing_init := F'Thing_init.binds (ps := ["self", "row"]) fun _ _ _ _ _ _ us hl => match us, hl with | [_, _], _ => rfl
  have F'pair := fun_mk (st := st_pair) l_pair c_pair' k_pair
  have b'pair := F'pair.binds (ps := ["key", "value"]) fun _ _ _ _ _ _ us hl => match us, hl with | [_, _], _ => rfl
  have F'Plain_init := fun_mk (st := st_Plain_init) l_Plain_init c_Plain_init' k_Plain_init
  have b'Plain_init := F'Plain_init.binds (ps := ["self", "row", "last_words"]) fun _ _ _ _ _ _ us hl => match us, hl with | [_, _, _], _ => rfl
  have F'plain := fun_mk (st := st_plain) l_plain c_plain' k_plain
  have b'plain := F'plain.binds (ps := ["fields", "words"]) fun _ _ _ _ _ _ us hl => match us, hl with | [_, _], _ => rfl
  have F'weak := fun_mk (st := st_weak) l_weak c_weak' k_weak
  have b'weak := F'weak.binds (ps := ["field"]) fun _ _ _ _ _ _ us hl => match us, hl with | [_], _ => rfl
  have F'Plain_with_field := fun_mk (st := st_Plain_with_field) l_Plain_with_field c_Plain_with_field' k_Plain_with_field
  have b'Plain_with_field := F'Plain_with_field.binds (ps := ["self", "at", "value"]) fun _ _ _ _ _ _ us hl => match us, hl with | [_, _, _], _ => rfl
  have F'Plain_with_words := fun_mk (st := st_Plain_with_words) l_Plain_with_words c_Plain_with_words' k_Plain_with_words
  have b'Plain_with_words := F'Plain_with_words.binds (ps := ["self", "words"]) fun _ _ _ _ _ _ us hl => match us, hl with | [_, _], _ => rfl
  have F'law_holds := fun_mk (st := st_law_holds) l_law_holds c_law_holds' k_law_holds
  have b'law_holds := F'law_holds.binds (ps := ["_law_cell"]) fun _ _ _ _ _ _ us hl => match us, hl with | [_], _ => rfl
  have F'law := fun_mk (st := st_law) l_law c_law' k_law
  refine ⟨PySem.W.fnOf "law" "law" (defArgs st_law) (defBody st_law) (defScope st_law) .none kV_law dc_law pm_law an_law cd_law ct_law, ga C_Pair C_Plain C_Thing, fun s v => .of_eq rfl, fun base _ _ => ?_⟩
  have ok'law_alike := ok_law_alike (P := l.prog) (w := w) (base := base) F'law_alike g B (PySem.W.mg_of X Gn g_law_alike) k_law_alike b'law_alike  8
  have ok'Pair_sort_of := ok_Pair_sort_of (P := l.prog) (w := w) (base := base) F'Pair_sort_of g B 
  have ok'is_thing := ok_is_thing (P := l.prog) (w := w) (base := base) F'is_thing g B 
  have F_is_thing : FnG l.prog w K mg base (ga C_Pair C_Plain C_Thing) 1 "is_thing" f_is_thing 1 := ⟨_, _, _, ok'is_thing, PySem.W.mg_of X Gn g_is_thing, k_is_thing, b'is_thing⟩
  have ok'Pair_waits := ok_Pair_waits (P := l.prog) (w := w) (base := base) F'Pair_waits g B F_is_thing
  have ok'Plain_holds := ok_Plain_holds (P := l.prog) (w := w) (base := base) F'Plain_holds g B F_is_thing
  have ok'Plain_sort_of := ok_Plain_sort_of (P := l.prog) (w := w) (base := base) F'Plain_sort_of g B 
  have ok'Plain_words := ok_Plain_words (P := l.prog) (w := w) (base := base) F'Plain_words g B 
  have ok'Thing_fields := ok_Thing_fields (P := l.prog) (w := w) (base := base) F'Thing_fields g B 
  have ok'Thing_holds := ok_Thing_holds (P := l.prog) (w := w) (base := base) F'Thing_holds g B 
  have ok'Thing_sort_of := ok_Thing_sort_of (P := l.prog) (w := w) (base := base) F'Thing_sort_of g B 
  have ok'Thing_waits := ok_Thing_waits (P := l.prog) (w := w) (base := base) F'Thing_waits g B 
  have ok'Thing_words := ok_Thing_words (P := l.prog) (w := w) (base := base) F'Thing_words g B 
  have F_law_alike : FnG l.prog w K mg base (ga C_Pair C_Plain C_Thing) 8 "_law_alike" (f_law_alike 8) 2 := ⟨_, _, _, ok'law_alike, PySem.W.mg_of X Gn g_law_alike, k_law_alike, b'law_alike⟩
  have X_Thing_waits : FnC l.prog w K mg base (ga C_Pair C_Plain C_Thing) 1 .Thing "waits" f_Thing_waits 1 := ⟨_, _, _, ok'Thing_waits, ⟨f_Thing_waits', i_Thing_waits, k_Thing_waits⟩, b'Thing_waits, rfl⟩
  have X_Plain_waits : FnC l.prog w K mg base (ga C_Pair C_Plain C_Thing) 1 .Plain "waits" f_Thing_waits 1 := ⟨_, _, _, ok'Thing_waits, ⟨f_Plain_waits', i_Thing_waits, k_Thing_waits⟩, b'Thing_waits, rfl⟩
  have X_Pair_waits : FnC l.prog w K mg base (ga C_Pair C_Plain C_Thing) 2 .Pair "waits" f_Pair_waits 1 := ⟨_, _, _, ok'Pair_waits, ⟨f_Pair_waits', i_Pair_waits, k_Pair_waits⟩, b'Pair_waits, rfl⟩
  have X_Thing_holds : FnC l.prog w K mg base (ga C_Pair C_Plain C_Thing) 1 .Thing "holds" f_Thing_holds 1 := ⟨_, _, _, ok'Thing_holds, ⟨f_Thing_holds', i_Thing_holds, k_Thing_holds⟩, b'Thing_holds, rfl⟩
  have X_Plain_holds : FnC l.prog w K mg base (ga C_Pair C_Plain C_Thing) 2 .Plain "holds" f_Plain_holds 1 := ⟨_, _, _, ok'Plain_holds, ⟨f_Plain_holds', i_Plain_holds, k_Plain_holds⟩, b'Plain_holds, rfl⟩
  have X_Pair_holds : FnC l.prog w K mg base (ga C_Pair C_Plain C_Thing) 1 .Pair "holds" f_Thing_holds 1 := ⟨_, _, _, ok'Thing_holds, ⟨f_Pair_holds', i_Thing_holds, k_Thing_holds⟩, b'Thing_holds, rfl⟩
  have X_Thing_words : FnC l.prog w K mg base (ga C_Pair C_Plain C_Thing) 1 .Thing "words" f_Thing_words 1 := ⟨_, _, _, ok'Thing_words, ⟨f_Thing_words', i_Thing_words, k_Thing_words⟩, b'Thing_words, rfl⟩
  have X_Plain_words : FnC l.prog w K mg base (ga C_Pair C_Plain C_Thing) 1 .Plain "words" f_Plain_words 1 := ⟨_, _, _, ok'Plain_words, ⟨f_Plain_words', i_Plain_words, k_Plain_words⟩, b'Plain_words, rfl⟩
  have X_Pair_words : FnC l.prog w K mg base (ga C_Pair C_Plain C_Thing) 1 .Pair "words" f_Thing_words 1 := ⟨_, _, _, ok'Thing_words, ⟨f_Pair_words', i_Thing_words, k_Thing_words⟩, b'Thing_words, rfl⟩
  have X_Thing_fields : FnC l.prog w K mg base (ga C_Pair C_Plain C_Thing) 1 .Thing "fields" f_Thing_fields 1 := ⟨_, _, _, ok'Thing_fields, ⟨f_Thing_fields', i_Thing_fields, k_Thing_fields⟩, b'Thing_fields, rfl⟩
  have X_Plain_fields : FnC l.prog w K mg base (ga C_Pair C_Plain C_Thing) 1 .Plain "fields" f_Thing_fields 1 := ⟨_, _, _, ok'Thing_fields, ⟨f_Plain_fields', i_Thing_fields, k_Thing_fields⟩, b'Thing_fields, rfl⟩
  have X_Pair_fields : FnC l.prog w K mg base (ga C_Pair C_Plain C_Thing) 1 .Pair "fields" f_Thing_fields 1 := ⟨_, _, _, ok'Thing_fields, ⟨f_Pair_fields', i_Thing_fields, k_Thing_fields⟩, b'Thing_fields, rfl⟩
  have X_Thing_sort_of : FnC l.prog w K mg base (ga C_Pair C_Plain C_Thing) 1 .Thing "sort_of" f_Thing_sort_of 1 := ⟨_, _, _, ok'Thing_sort_of, ⟨f_Thing_sort_of', i_Thing_sort_of, k_Thing_sort_of⟩, b'Thing_sort_of, rfl⟩
  have X_Plain_sort_of : FnC l.prog w K mg base (ga C_Pair C_Plain C_Thing) 1 .Plain "sort_of" f_Plain_sort_of 1 := ⟨_, _, _, ok'Plain_sort_of, ⟨f_Plain_sort_of', i_Plain_sort_of, k_Plain_sort_of⟩, b'Plain_sort_of, rfl⟩
  have X_Pair_sort_of : FnC l.prog w K mg base (ga C_Pair C_Plain C_Thing) 1 .Pair "sort_of" f_Pair_sort_of 1 := ⟨_, _, _, ok'Pair_sort_of, ⟨f_Pair_sort_of', i_Pair_sort_of, k_Pair_sort_of⟩, b'Pair_sort_of, rfl⟩
  have ok'law_right := ok_law_right (P := l.prog) (w := w) (base := base) F'law_right g B F_law_alike X_Thing_waits X_Plain_waits X_Pair_waits X_Thing_holds X_Plain_holds X_Pair_holds X_Thing_words X_Plain_words X_Pair_words X_Thing_fields X_Plain_fields X_Pair_fields X_Thing_sort_of X_Plain_sort_of X_Pair_sort_of
  have ok'law_value_by := ok_law_value_by (P := l.prog) (w := w) (base := base) F'law_value_by g B 
  have ok'Thing_init := ok_Thing_init (P := l.prog) (w := w) (base := base) F'Thing_init g B 
  have M_Pair : FnM l.prog w K mg base (ga C_Pair C_Plain C_Thing) 1 .Pair f_Thing_init 2 := ⟨_, _, _, ok'Thing_init, ⟨mk_Pair, f_Pair_init', i_Thing_init, kc_Pair⟩, PySem.W.mg_of X Gn aC_Pair, b'Thing_init, rfl⟩
  have ok'pair := ok_pair (P := l.prog) (w := w) (base := base) F'pair g B M_Pair
  have U_Thing___init__ : FnU l.prog w K mg base (ga C_Pair C_Plain C_Thing) 1 .Thing "__init__" f_Thing_init 2 := ⟨_, _, _, ok'Thing_init, ⟨rd_Thing, ga_Thing⟩, u_Thing_init, PySem.W.mg_of X Gn aC_Thing, k_Thing_init, b'Thing_init⟩
  have ok'Plain_init := ok_Plain_init (P := l.prog) (w := w) (base := base) F'Plain_init g B U_Thing___init__
  have M_Plain : FnM l.prog w K mg base (ga C_Pair C_Plain C_Thing) 2 .Plain f_Plain_init 3 := ⟨_, _, _, ok'Plain_init, ⟨mk_Plain, f_Plain_init', i_Plain_init, kc_Plain⟩, PySem.W.mg_of X Gn aC_Plain, b'Plain_init, rfl⟩
  have ok'plain := ok_plain (P := l.prog) (w := w) (base := base) F'plain g B M_Plain
  have M_Thing : FnM l.prog w K mg base (ga C_Pair C_Plain C_Thing) 1 .Thing f_Thing_init 2 := ⟨_, _, _, ok'Thing_init, ⟨mk_Thing, f_Thing_init', i_Thing_init, kc_Thing⟩, PySem.W.mg_of X Gn aC_Thing, b'Thing_init, rfl⟩
  have ok'weak := ok_weak (P := l.prog) (w := w) (base := base) F'weak g B M_Thing
  have ok'Plain_with_field := ok_Plain_with_field (P := l.prog) (w := w) (base := base) F'Plain_with_field g B M_Plain
  have ok'Plain_with_words := ok_Plain_with_words (P := l.prog) (w := w) (base := base) F'Plain_with_words g B M_Plain
  have F_law_value_by : FnG l.prog w K mg base (ga C_Pair C_Plain C_Thing) 1 "_law_value_by" f_law_value_by 1 := ⟨_, _, _, ok'law_value_by, PySem.W.mg_of X Gn g_law_value_by, k_law_value_by, b'law_value_by⟩
  have F_plain : FnG l.prog w K mg base (ga C_Pair C_Plain C_Thing) 4 "plain" f_plain 2 := ⟨_, _, _, ok'plain, PySem.W.mg_of X Gn g_plain, k_plain, b'plain⟩
  have I_Thing : IsO K mg (ga C_Pair C_Plain C_Thing) .Thing iso_Thing := ⟨PySem.W.mg_of X Gn aC_Thing, fun t ht => by
    simp only [List.mem_cons, List.not_mem_nil, or_false] at ht
    rcases ht with rfl | rfl | rfl | rfl | rfl | rfl | rfl <;> first | exact kt_Thing_NoneType | exact kt_Thing_bool | exact kt_Thing_int | exact kt_Thing_str | exact kt_Thing_tuple | exact kt_Thing_list | exact kt_Thing_dict, hn_cls, tk_cls, fun c' b hm => by
    simp only [iso_Thing, List.mem_cons, List.not_mem_nil, or_false, Prod.mk.injEq] at hm
    rcases hm with ⟨rfl, rfl⟩ | ⟨rfl, rfl⟩ | ⟨rfl, rfl⟩
    · exact ⟨ki_Pair_Thing, ⟨pg_Pair, hd_Pair, po_Pair, sa_Pair⟩, cc_Pair, mo_Pair⟩
    · exact ⟨ki_Plain_Thing, ⟨pg_Plain, hd_Plain, po_Plain, sa_Plain⟩, cc_Plain, mo_Plain⟩
    · exact ⟨ki_Thing_Thing, ⟨pg_Thing, hd_Thing, po_Thing, sa_Thing⟩, cc_Thing, mo_Thing⟩⟩
  have F_law_right : FnG l.prog w K mg base (ga C_Pair C_Plain C_Thing) 9 "_law_right" f_law_right 4 := ⟨_, _, _, ok'law_right, PySem.W.mg_of X Gn g_law_right, k_law_right, b'law_right⟩
  have X_Plain_with_field : FnC l.prog w K mg base (ga C_Pair C_Plain C_Thing) 4 .Plain "with_field" f_Plain_with_field 3 := ⟨_, _, _, ok'Plain_with_field, ⟨f_Plain_with_field', i_Plain_with_field, k_Plain_with_field⟩, b'Plain_with_field, rfl⟩
  have X_Plain_with_words : FnC l.prog w K mg base (ga C_Pair C_Plain C_Thing) 4 .Plain "with_words" f_Plain_with_words 2 := ⟨_, _, _, ok'Plain_with_words, ⟨f_Plain_with_words', i_Plain_with_words, k_Plain_with_words⟩, b'Plain_with_words, rfl⟩
  have F_weak : FnG l.prog w K mg base (ga C_Pair C_Plain C_Thing) 3 "weak" f_weak 1 := ⟨_, _, _, ok'weak, PySem.W.mg_of X Gn g_weak, k_weak, b'weak⟩
  have F_pair : FnG l.prog w K mg base (ga C_Pair C_Plain C_Thing) 3 "pair" f_pair 2 := ⟨_, _, _, ok'pair, PySem.W.mg_of X Gn g_pair, k_pair, b'pair⟩
  have ok'law_holds := ok_law_holds (P := l.prog) (w := w) (base := base) F'law_holds g B F_law_value_by F_plain X_Thing_fields X_Plain_fields X_Pair_fields X_Thing_holds X_Plain_holds X_Pair_holds I_Thing F_law_right X_Plain_with_field X_Plain_with_words F_weak F_pair X_Thing_waits X_Plain_waits X_Pair_waits
  have F_law_holds : FnG l.prog w K mg base (ga C_Pair C_Plain C_Thing) 10 "_law_holds" f_law_holds 1 := ⟨_, _, _, ok'law_holds, PySem.W.mg_of X Gn g_law_holds, k_law_holds, b'law_holds⟩
  have ok'law := ok_law (P := l.prog) (w := w) (base := base) F'law g B F_law_holds
  exact ok'law
theorem walk {l : PySem.W.OpenLaw} {q : Program} {loose : List Str} {XP : (Str → Option Value) → Heap → Prop} {YP : World → Heap → Prop} {d : DefRec} {K : Params → PySem.W.Frag} (hn : l.most = some 63) (hdf : d.params.defaults = [])
    (hlaw : ∀ ns : List Int, ns.length ≤ 63 → (∀ z ∈ ns, Builtin.Int.intBits z ≤ 1048576) → ∃ S', f_law [.loc 0] (scriptS ns) = .ok (.bl true) S')
    (hY : ∀ (w : World) (h : Heap), YP w h → (K w.params).In h)
    (F : ∀ (w : World) (mg : Str → Option Value) (fa : Addr) (h : Heap), (K w.params).In h → h.Ns mainGlobals mg → mg d.name = some (.ref fa) →
      ∃ (fd : FuncData) (G : Ga), (∀ (s : Shared) (u : Value), BindsTo s fd ⟨[u], []⟩ [("_law_script", u)]) ∧ ∀ base : Heap, (K w.params).In base → base.Ns mainGlobals mg → FnOk l.prog w (K w.params) mg base (L2.CX l.prog w) 11 fa fd ["_law_script"] (SpM (K w.params) G f_law 1)) :
    PySem.W.WalkO q loose XP YP l.row.toRowW d [] (fun f vs => PySem.call f vs) :=
  L2.walk_ofB (n := 63) (k := 11) (x := "_law_script") (CX := fun w => L2.CX l.prog w) (sp := fun w vs H Q E => ∀ G : Ga, SpM (K w.params) G f_law 1 vs H Q E) hn (by decide) hdf ⟨rfl, by decide, by decide⟩ hY
    (fun w mg fa h h1 h2 h3 => let ⟨fd, G, a, b⟩ := F w mg fa h h1 h2 h3; ⟨fd, a, fun base h4 h5 => (b base h4 h5).imp fun _ _ _ _ z => z G⟩)
    (fun w H a ns hl hb hO hS G => sp_law hO hS (hlaw ns hl hb)) fun _ H s e s' ⟨_, _, _, _, _, _, _, _, _, _, _, _, z⟩ => z
end MP

set_option Elab.async false
set_option linter.all false
set_option maxRecDepth 100000
set_option maxHeartbeats 4000000
namespace MP
open PySem L2
theorem it_NoneType_bool : isT "NoneType" "bool" = false := by decide
theorem it_NoneType_str : isT "NoneType" "str" = false := by decide
theorem it_NoneType_int : isT "NoneType" "int" = false := by decide
theorem it_NoneType_tuple : isT "NoneType" "tuple" = false := by decide
theorem it_NoneType_list : isT "NoneType" "list" = false := by decide
theorem it_NoneType_dict : isT "NoneType" "dict" = false := by decide
theorem it_bool_bool : isT "bool" "bool" = true := by decide
theorem it_bool_str : isT "bool" "str" = false := by decide
theorem it_bool_int : isT "bool" "int" = true := by decide
theorem it_bool_tuple : isT "bool" "tuple" = false := by decide
theorem it_bool_list : isT "bool" "list" = false := by decide
theorem it_bool_dict : isT "bool" "dict" = false := by decide
theorem it_int_bool : isT "int" "bool" = false := by decide
theorem it_int_str : isT "int" "str" = false := by decide
theorem it_int_int : isT "int" "int" = true := by decide
theorem it_int_tuple : isT "int" "tuple" = false := by decide
theorem it_int_list : isT "int" "list" = false := by decide
theorem it_int_dict : isT "int" "dict" = false := by decide
theorem it_str_bool : isT "str" "bool" = false := by decide
theorem it_str_str : isT "str" "str" = true := by decide
theorem it_str_int : isT "str" "int" = false := by decide
theorem it_str_tuple : isT "str" "tuple" = false := by decide
theorem it_str_list : isT "str" "list" = false := by decide
theorem it_str_dict : isT "str" "dict" = false := by decide
theorem it_tuple_bool : isT "tuple" "bool" = false := by decide
theorem it_tuple_str : isT "tuple" "str" = false := by decide
theorem it_tuple_int : isT "tuple" "int" = false := by decide
theorem it_tuple_tuple : isT "tuple" "tuple" = true := by decide
theorem it_tuple_list : isT "tuple" "list" = false := by decide
theorem it_tuple_dict : isT "tuple" "dict" = false := by decide
theorem it_list_bool : isT "list" "bool" = false := by decide
theorem it_list_str : isT "list" "str" = false := by decide
theorem it_list_int : isT "list" "int" = false := by decide
theorem it_list_tuple : isT "list" "tuple" = false := by decide
theorem it_list_list : isT "list" "list" = true := by decide
theorem it_list_dict : isT "list" "dict" = false := by decide
/-! ### alike: the same data -/
mutual
def smallP : PyData → Bool
  | .list xs => decide (xs.length ≤ 100000) && smallAll xs
  | .tuple xs => decide (xs.length ≤ 100000) && smallAll xs
  | _ => true
def smallAll : List PyData → Bool
  | [] => true
  | x :: xs => smallP x && smallAll xs
end
theorem smallAll_get : ∀ {ps : List PyData} {k : Nat} {p : PyData}, smallAll ps = true → ps[k]? = some p → smallP p = true
  | [], _, _, _, h => by simp at h
  | q :: ps, 0, p, hs, h => by
    simp only [smallAll, Bool.and_eq_true] at hs
    simp only [List.getElem?_cons_zero, Option.some.injEq] at h
    rw [← h]; exact hs.1
  | q :: ps, k + 1, p, hs, h => by
    simp only [smallAll, Bool.and_eq_true] at hs
    rw [List.getElem?_cons_succ] at h
    exact smallAll_get hs.2 h
theorem layAll_get : ∀ {ps : List PyData} {k : Nat} {p : PyData}, PyData.canLayAll0 ps = true → ps[k]? = some p → p.canLay0 = true
  | [], _, _, _, h => by simp at h
  | q :: ps, 0, p, hs, h => by
    simp only [PyData.canLayAll0, Bool.and_eq_true] at hs
    simp only [List.getElem?_cons_zero, Option.some.injEq] at h
    rw [← h]; exact hs.1
  | q :: ps, k + 1, p, hs, h => by
    simp only [PyData.canLayAll0, Bool.and_eq_true] at hs
    rw [List.getElem?_cons_succ] at h
    exact layAll_get hs.2 h
theorem optAll_get {α β : Type} {f : α → Option β} : ∀ {xs : List α} {ys : List β}, optAll f xs = some ys → xs.length = ys.length ∧ ∀ (k : Nat) (x : α), xs[k]? = some x → ∃ y, ys[k]? = some y ∧ f x = some y
  | [], ys, h => by cases h; exact ⟨rfl, fun k x e => by simp at e⟩
  | x :: xs, ys, h => by
    unfold optAll at h
    split at h
    · rename_i z zs e1 e2
      cases h
      obtain ⟨h1, h2⟩ := optAll_get e2
      refine ⟨by simp [h1], fun k w e => ?_⟩
      cases k with
      | zero => simp only [List.getElem?_cons_zero, Option.some.injEq] at e ⊢; subst e; exact ⟨z, rfl, e1⟩
      | succ k => rw [List.getElem?_cons_succ] at e ⊢; exact h2 k w e
    · cases h
theorem pd_list_inv {S : Sto} {n : Nat} {x : D} {ps : List PyData} (h : pd S (n + 1) x = some (.list ps)) : ∃ a fz xs, x = .loc a ∧ S[a]? = some (.lst fz xs) ∧ optAll (pd S n) xs = some ps := by
  cases x with
  | loc l =>
    simp only [pd] at h
    split at h
    · rename_i fz xs e
      obtain ⟨qs, e1, e2⟩ := Option.map_eq_some_iff.mp h
      cases e2
      exact ⟨l, fz, xs, rfl, e, e1⟩
    · cases h
  | tup xs =>
    simp only [pd] at h
    obtain ⟨qs, e1, e2⟩ := Option.map_eq_some_iff.mp h
    cases e2
  | _ => simp [pd] at h
theorem pd_tuple_inv {S : Sto} {n : Nat} {x : D} {ps : List PyData} (h : pd S (n + 1) x = some (.tuple ps)) : ∃ xs, x = .tup xs ∧ optAll (pd S n) xs = some ps := by
  cases x with
  | loc l =>
    simp only [pd] at h
    split at h
    · obtain ⟨qs, e1, e2⟩ := Option.map_eq_some_iff.mp h
      cases e2
    · cases h
  | tup xs =>
    simp only [pd] at h
    obtain ⟨qs, e1, e2⟩ := Option.map_eq_some_iff.mp h
    cases e2
    exact ⟨xs, rfl, e1⟩
  | _ => simp [pd] at h
theorem pd_scal {S : Sto} {n : Nat} {x : D} {p : PyData} (h : pd S n x = some p) : (p = .none → x = .non) ∧ (∀ b, p = .bool b → x = .bl b) ∧ (∀ i, p = .int i → x = .int i) ∧ (∀ z, p = .str z → x = .str z) ∧ (∀ q, p ≠ .dict q) ∧ (n = 0 → (∀ q, p ≠ .list q) ∧ ∀ q, p ≠ .tuple q) := by
  cases n with
  | zero => cases x <;> simp [pd] at h <;> subst h <;> simp
  | succ n =>
    cases x with
    | loc l =>
      simp only [pd] at h
      split at h
      · obtain ⟨qs, e1, e2⟩ := Option.map_eq_some_iff.mp h
        subst e2; simp
      · cases h
    | tup xs =>
      simp only [pd] at h
      obtain ⟨qs, e1, e2⟩ := Option.map_eq_some_iff.mp h
      subst e2; simp
    | _ => simp [pd] at h; subst h; simp
theorem eq_non (S : Sto) : eqR .non .non S = .ok (.bl true) S := rfl
theorem alike_spec : ∀ (n : Nat) {x y : D} {p : PyData} {S : Sto}, pd S n x = some p → pd S n y = some p → p.canLay0 = true → smallP p = true → f_law_alike (n + 1) [x, y] S = .ok (.bl true) S := by
  intro n
  induction n with
  | zero =>
    intro x y p S hx hy hl hs
    have sx := pd_scal hx
    have sy := pd_scal hy
    have e : f_law_alike (0 + 1) = fnB 4 (b_law_alike (f_law_alike 0)) := rfl
    rw [e]
    unfold b_law_alike
    cases p with
    | none => rw [sx.1 rfl, sy.1 rfl]; simp -implicitDefEqProofs only [r_var, kVar_ok, r_c, r_op2, kOpA_ok, kOpA_exc, kOpB_ok, kOpB_exc, r_test, r_asB, r_and, r_or, r_not, kAnd_t, kAnd_f, kAnd_exc, kOr_t, kOr_f, kOr_exc, kNot_ok, kNot_exc, r_mand, r_mor, r_mnot, kMAnd_t, kMAnd_f, kMOr_t, kMOr_f, kMNot_ok, r_ife, kIfE_t, kIfE_f, kIfE_exc,
  r_anil, r_acons, kArg_ok, kArg_exc, kArgs_ok, kArgs_exc, r_tup, r_lst, r_fld, r_call, kCall_ok, kCall_exc, r_call0, noX_ok, r_meth, kM1_ok, kM1_exc, kM2_ok, kM2_stuck, kM3_ok, kM3_exc, r_meth0, kN1_ok, kN1_exc, kN2_ok, kN2_stuck, r_make, kMake_ok, mkEnd_ok, r_cb, r_isi, r_bm, kBM1_ok, kBM2_ok, r_alt, kAlt_ok, kAlt_exc, kAlt_stuck,
  r_sl, kSl1_ok, kSl2_ok, kSl3_ok, r_ptN, r_ptS, optI_ok, r_nil, r_seq, kSeq_nx, kSeq_rt, kSeq_xc, kSeq_bk, kSeq_ct, r_clr, kClr_nx, kClr_rt, kClr_xc, kClr_bk, kClr_ct, clr_nil, clr_cons, r_set, kSet_ok, kSet_exc, r_expr, kExpr_ok, kExpr_exc, r_ret, kRet_ok, kRet_exc, r_retN, r_if, kSIf_t, kSIf_f, kSIf_exc, r_brk, r_cont, r_for, kFor_ok,
  kItA_ok, kIt_some, r_itL, r_itT, r_itS, r_itR1, r_itR2, r_itEn, r_asg, kAsg_ok, sTgO_some, tgM_nm, setAllM_nil, setAllM_cons, r_aug, kAug1_ok, kAug2_ok, r_fs, kFS1_ok, kFS2_ok, nxO_some, r_sl1, kSL1_ok, kSL2_ok, kSL3_ok, r_fnB, kFn_nx, kFn_rt, kFn_xc, r_lc, kLc_ok, r_yes, r_tgtp, kTg_ok, r_items, r_itemsT, kItems_ok, r_self, kSelf_ok, kSelf_no, ne_eq, reduceCtorEq, not_false_eq_true, r_isiR, kIsi_ok, r_ty, kTy_l, r_getF, kGetF_ok, kLk_ok, lk_yes, r_setF, r_itLl, kItL_ok, r_isL, kIsL_ok, r_lApp, kApp_ok, r_getI, kGetI_ok, r_getIT, r_setI, kSetI_ok, kStO_ok, r_while, r_bm0, kBM0_ok, r_lClear, kClear_ok, r_len, kLen_ok, len_tup, r_sl4, kSl4_ok, stepQ_nx, stepQ_ct, stepQ_bk, stepQ_rt, stepQ_xc,
  Res.bind_ok, Res.bind_exc, Res.bind_stuck,
  List.map_cons, List.map_nil, List.length_cons, List.length_nil, List.replicate_succ, List.replicate_zero, List.cons_append, List.nil_append, List.append_nil, List.set_cons_succ, List.set_cons_zero, List.getElem?_cons_succ, List.getElem?_cons_zero,
  Nat.reduceAdd, Nat.reduceSub, Nat.zero_add, Nat.sub_self, Bool.not_true, Bool.not_false, eq_self_iff_true, ty_non, it_NoneType_bool, it_NoneType_str, it_NoneType_int, it_NoneType_tuple, it_NoneType_list, it_NoneType_dict, it_bool_bool, it_bool_str, it_bool_int, it_bool_tuple, it_bool_list, it_bool_dict, it_int_bool, it_int_str, it_int_int, it_int_tuple, it_int_list, it_int_dict, it_str_bool, it_str_str, it_str_int, it_str_tuple, it_str_list, it_str_dict, it_tuple_bool, it_tuple_str, it_tuple_int, it_tuple_tuple, it_tuple_list, it_tuple_dict, it_list_bool, it_list_str, it_list_int, it_list_tuple, it_list_list, it_list_dict, is_non, isN_non, eq_non, eq_bl, decide_true]
    | bool b => rw [sx.2.1 b rfl, sy.2.1 b rfl]; simp -implicitDefEqProofs only [r_var, kVar_ok, r_c, r_op2, kOpA_ok, kOpA_exc, kOpB_ok, kOpB_exc, r_test, r_asB, r_and, r_or, r_not, kAnd_t, kAnd_f, kAnd_exc, kOr_t, kOr_f, kOr_exc, kNot_ok, kNot_exc, r_mand, r_mor, r_mnot, kMAnd_t, kMAnd_f, kMOr_t, kMOr_f, kMNot_ok, r_ife, kIfE_t, kIfE_f, kIfE_exc,
  r_anil, r_acons, kArg_ok, kArg_exc, kArgs_ok, kArgs_exc, r_tup, r_lst, r_fld, r_call, kCall_ok, kCall_exc, r_call0, noX_ok, r_meth, kM1_ok, kM1_exc, kM2_ok, kM2_stuck, kM3_ok, kM3_exc, r_meth0, kN1_ok, kN1_exc, kN2_ok, kN2_stuck, r_make, kMake_ok, mkEnd_ok, r_cb, r_isi, r_bm, kBM1_ok, kBM2_ok, r_alt, kAlt_ok, kAlt_exc, kAlt_stuck,
  r_sl, kSl1_ok, kSl2_ok, kSl3_ok, r_ptN, r_ptS, optI_ok, r_nil, r_seq, kSeq_nx, kSeq_rt, kSeq_xc, kSeq_bk, kSeq_ct, r_clr, kClr_nx, kClr_rt, kClr_xc, kClr_bk, kClr_ct, clr_nil, clr_cons, r_set, kSet_ok, kSet_exc, r_expr, kExpr_ok, kExpr_exc, r_ret, kRet_ok, kRet_exc, r_retN, r_if, kSIf_t, kSIf_f, kSIf_exc, r_brk, r_cont, r_for, kFor_ok,
  kItA_ok, kIt_some, r_itL, r_itT, r_itS, r_itR1, r_itR2, r_itEn, r_asg, kAsg_ok, sTgO_some, tgM_nm, setAllM_nil, setAllM_cons, r_aug, kAug1_ok, kAug2_ok, r_fs, kFS1_ok, kFS2_ok, nxO_some, r_sl1, kSL1_ok, kSL2_ok, kSL3_ok, r_fnB, kFn_nx, kFn_rt, kFn_xc, r_lc, kLc_ok, r_yes, r_tgtp, kTg_ok, r_items, r_itemsT, kItems_ok, r_self, kSelf_ok, kSelf_no, ne_eq, reduceCtorEq, not_false_eq_true, r_isiR, kIsi_ok, r_ty, kTy_l, r_getF, kGetF_ok, kLk_ok, lk_yes, r_setF, r_itLl, kItL_ok, r_isL, kIsL_ok, r_lApp, kApp_ok, r_getI, kGetI_ok, r_getIT, r_setI, kSetI_ok, kStO_ok, r_while, r_bm0, kBM0_ok, r_lClear, kClear_ok, r_len, kLen_ok, len_tup, r_sl4, kSl4_ok, stepQ_nx, stepQ_ct, stepQ_bk, stepQ_rt, stepQ_xc,
  Res.bind_ok, Res.bind_exc, Res.bind_stuck,
  List.map_cons, List.map_nil, List.length_cons, List.length_nil, List.replicate_succ, List.replicate_zero, List.cons_append, List.nil_append, List.append_nil, List.set_cons_succ, List.set_cons_zero, List.getElem?_cons_succ, List.getElem?_cons_zero,
  Nat.reduceAdd, Nat.reduceSub, Nat.zero_add, Nat.sub_self, Bool.not_true, Bool.not_false, eq_self_iff_true, ty_bl, it_NoneType_bool, it_NoneType_str, it_NoneType_int, it_NoneType_tuple, it_NoneType_list, it_NoneType_dict, it_bool_bool, it_bool_str, it_bool_int, it_bool_tuple, it_bool_list, it_bool_dict, it_int_bool, it_int_str, it_int_int, it_int_tuple, it_int_list, it_int_dict, it_str_bool, it_str_str, it_str_int, it_str_tuple, it_str_list, it_str_dict, it_tuple_bool, it_tuple_str, it_tuple_int, it_tuple_tuple, it_tuple_list, it_tuple_dict, it_list_bool, it_list_str, it_list_int, it_list_tuple, it_list_list, it_list_dict, eq_bl, decide_true]
    | int i => rw [sx.2.2.1 i rfl, sy.2.2.1 i rfl]; simp -implicitDefEqProofs only [r_var, kVar_ok, r_c, r_op2, kOpA_ok, kOpA_exc, kOpB_ok, kOpB_exc, r_test, r_asB, r_and, r_or, r_not, kAnd_t, kAnd_f, kAnd_exc, kOr_t, kOr_f, kOr_exc, kNot_ok, kNot_exc, r_mand, r_mor, r_mnot, kMAnd_t, kMAnd_f, kMOr_t, kMOr_f, kMNot_ok, r_ife, kIfE_t, kIfE_f, kIfE_exc,
  r_anil, r_acons, kArg_ok, kArg_exc, kArgs_ok, kArgs_exc, r_tup, r_lst, r_fld, r_call, kCall_ok, kCall_exc, r_call0, noX_ok, r_meth, kM1_ok, kM1_exc, kM2_ok, kM2_stuck, kM3_ok, kM3_exc, r_meth0, kN1_ok, kN1_exc, kN2_ok, kN2_stuck, r_make, kMake_ok, mkEnd_ok, r_cb, r_isi, r_bm, kBM1_ok, kBM2_ok, r_alt, kAlt_ok, kAlt_exc, kAlt_stuck,
  r_sl, kSl1_ok, kSl2_ok, kSl3_ok, r_ptN, r_ptS, optI_ok, r_nil, r_seq, kSeq_nx, kSeq_rt, kSeq_xc, kSeq_bk, kSeq_ct, r_clr, kClr_nx, kClr_rt, kClr_xc, kClr_bk, kClr_ct, clr_nil, clr_cons, r_set, kSet_ok, kSet_exc, r_expr, kExpr_ok, kExpr_exc, r_ret, kRet_ok, kRet_exc, r_retN, r_if, kSIf_t, kSIf_f, kSIf_exc, r_brk, r_cont, r_for, kFor_ok,
  kItA_ok, kIt_some, r_itL, r_itT, r_itS, r_itR1, r_itR2, r_itEn, r_asg, kAsg_ok, sTgO_some, tgM_nm, setAllM_nil, setAllM_cons, r_aug, kAug1_ok, kAug2_ok, r_fs, kFS1_ok, kFS2_ok, nxO_some, r_sl1, kSL1_ok, kSL2_ok, kSL3_ok, r_fnB, kFn_nx, kFn_rt, kFn_xc, r_lc, kLc_ok, r_yes, r_tgtp, kTg_ok, r_items, r_itemsT, kItems_ok, r_self, kSelf_ok, kSelf_no, ne_eq, reduceCtorEq, not_false_eq_true, r_isiR, kIsi_ok, r_ty, kTy_l, r_getF, kGetF_ok, kLk_ok, lk_yes, r_setF, r_itLl, kItL_ok, r_isL, kIsL_ok, r_lApp, kApp_ok, r_getI, kGetI_ok, r_getIT, r_setI, kSetI_ok, kStO_ok, r_while, r_bm0, kBM0_ok, r_lClear, kClear_ok, r_len, kLen_ok, len_tup, r_sl4, kSl4_ok, stepQ_nx, stepQ_ct, stepQ_bk, stepQ_rt, stepQ_xc,
  Res.bind_ok, Res.bind_exc, Res.bind_stuck,
  List.map_cons, List.map_nil, List.length_cons, List.length_nil, List.replicate_succ, List.replicate_zero, List.cons_append, List.nil_append, List.append_nil, List.set_cons_succ, List.set_cons_zero, List.getElem?_cons_succ, List.getElem?_cons_zero,
  Nat.reduceAdd, Nat.reduceSub, Nat.zero_add, Nat.sub_self, Bool.not_true, Bool.not_false, eq_self_iff_true, ty_int, it_NoneType_bool, it_NoneType_str, it_NoneType_int, it_NoneType_tuple, it_NoneType_list, it_NoneType_dict, it_bool_bool, it_bool_str, it_bool_int, it_bool_tuple, it_bool_list, it_bool_dict, it_int_bool, it_int_str, it_int_int, it_int_tuple, it_int_list, it_int_dict, it_str_bool, it_str_str, it_str_int, it_str_tuple, it_str_list, it_str_dict, it_tuple_bool, it_tuple_str, it_tuple_int, it_tuple_tuple, it_tuple_list, it_tuple_dict, it_list_bool, it_list_str, it_list_int, it_list_tuple, it_list_list, it_list_dict, is_non, isN_int, eq_int, decide_true]
    | str z => rw [sx.2.2.2.1 z rfl, sy.2.2.2.1 z rfl]; simp -implicitDefEqProofs only [r_var, kVar_ok, r_c, r_op2, kOpA_ok, kOpA_exc, kOpB_ok, kOpB_exc, r_test, r_asB, r_and, r_or, r_not, kAnd_t, kAnd_f, kAnd_exc, kOr_t, kOr_f, kOr_exc, kNot_ok, kNot_exc, r_mand, r_mor, r_mnot, kMAnd_t, kMAnd_f, kMOr_t, kMOr_f, kMNot_ok, r_ife, kIfE_t, kIfE_f, kIfE_exc,
  r_anil, r_acons, kArg_ok, kArg_exc, kArgs_ok, kArgs_exc, r_tup, r_lst, r_fld, r_call, kCall_ok, kCall_exc, r_call0, noX_ok, r_meth, kM1_ok, kM1_exc, kM2_ok, kM2_stuck, kM3_ok, kM3_exc, r_meth0, kN1_ok, kN1_exc, kN2_ok, kN2_stuck, r_make, kMake_ok, mkEnd_ok, r_cb, r_isi, r_bm, kBM1_ok, kBM2_ok, r_alt, kAlt_ok, kAlt_exc, kAlt_stuck,
  r_sl, kSl1_ok, kSl2_ok, kSl3_ok, r_ptN, r_ptS, optI_ok, r_nil, r_seq, kSeq_nx, kSeq_rt, kSeq_xc, kSeq_bk, kSeq_ct, r_clr, kClr_nx, kClr_rt, kClr_xc, kClr_bk, kClr_ct, clr_nil, clr_cons, r_set, kSet_ok, kSet_exc, r_expr, kExpr_ok, kExpr_exc, r_ret, kRet_ok, kRet_exc, r_retN, r_if, kSIf_t, kSIf_f, kSIf_exc, r_brk, r_cont, r_for, kFor_ok,
  kItA_ok, kIt_some, r_itL, r_itT, r_itS, r_itR1, r_itR2, r_itEn, r_asg, kAsg_ok, sTgO_some, tgM_nm, setAllM_nil, setAllM_cons, r_aug, kAug1_ok, kAug2_ok, r_fs, kFS1_ok, kFS2_ok, nxO_some, r_sl1, kSL1_ok, kSL2_ok, kSL3_ok, r_fnB, kFn_nx, kFn_rt, kFn_xc, r_lc, kLc_ok, r_yes, r_tgtp, kTg_ok, r_items, r_itemsT, kItems_ok, r_self, kSelf_ok, kSelf_no, ne_eq, reduceCtorEq, not_false_eq_true, r_isiR, kIsi_ok, r_ty, kTy_l, r_getF, kGetF_ok, kLk_ok, lk_yes, r_setF, r_itLl, kItL_ok, r_isL, kIsL_ok, r_lApp, kApp_ok, r_getI, kGetI_ok, r_getIT, r_setI, kSetI_ok, kStO_ok, r_while, r_bm0, kBM0_ok, r_lClear, kClear_ok, r_len, kLen_ok, len_tup, r_sl4, kSl4_ok, stepQ_nx, stepQ_ct, stepQ_bk, stepQ_rt, stepQ_xc,
  Res.bind_ok, Res.bind_exc, Res.bind_stuck,
  List.map_cons, List.map_nil, List.length_cons, List.length_nil, List.replicate_succ, List.replicate_zero, List.cons_append, List.nil_append, List.append_nil, List.set_cons_succ, List.set_cons_zero, List.getElem?_cons_succ, List.getElem?_cons_zero,
  Nat.reduceAdd, Nat.reduceSub, Nat.zero_add, Nat.sub_self, Bool.not_true, Bool.not_false, eq_self_iff_true, ty_str, it_NoneType_bool, it_NoneType_str, it_NoneType_int, it_NoneType_tuple, it_NoneType_list, it_NoneType_dict, it_bool_bool, it_bool_str, it_bool_int, it_bool_tuple, it_bool_list, it_bool_dict, it_int_bool, it_int_str, it_int_int, it_int_tuple, it_int_list, it_int_dict, it_str_bool, it_str_str, it_str_int, it_str_tuple, it_str_list, it_str_dict, it_tuple_bool, it_tuple_str, it_tuple_int, it_tuple_tuple, it_tuple_list, it_tuple_dict, it_list_bool, it_list_str, it_list_int, it_list_tuple, it_list_list, it_list_dict, is_non, isN_str, eq_str, eq_bl, decide_true]
    | list ps => exact absurd rfl ((sx.2.2.2.2.2 rfl).1 ps)
    | tuple ps => exact absurd rfl ((sx.2.2.2.2.2 rfl).2 ps)
    | dict q => exact absurd rfl (sx.2.2.2.2.1 q)
  | succ n ih =>
    intro x y p S hx hy hl hs
    have sx := pd_scal hx
    have sy := pd_scal hy
    have e : f_law_alike (n + 1 + 1) = fnB 4 (b_law_alike (f_law_alike (n + 1))) := rfl
    rw [e]
    unfold b_law_alike
    cases p with
    | none => rw [sx.1 rfl, sy.1 rfl]; simp -implicitDefEqProofs only [r_var, kVar_ok, r_c, r_op2, kOpA_ok, kOpA_exc, kOpB_ok, kOpB_exc, r_test, r_asB, r_and, r_or, r_not, kAnd_t, kAnd_f, kAnd_exc, kOr_t, kOr_f, kOr_exc, kNot_ok, kNot_exc, r_mand, r_mor, r_mnot, kMAnd_t, kMAnd_f, kMOr_t, kMOr_f, kMNot_ok, r_ife, kIfE_t, kIfE_f, kIfE_exc,
  r_anil, r_acons, kArg_ok, kArg_exc, kArgs_ok, kArgs_exc, r_tup, r_lst, r_fld, r_call, kCall_ok, kCall_exc, r_call0, noX_ok, r_meth, kM1_ok, kM1_exc, kM2_ok, kM2_stuck, kM3_ok, kM3_exc, r_meth0, kN1_ok, kN1_exc, kN2_ok, kN2_stuck, r_make, kMake_ok, mkEnd_ok, r_cb, r_isi, r_bm, kBM1_ok, kBM2_ok, r_alt, kAlt_ok, kAlt_exc, kAlt_stuck,
  r_sl, kSl1_ok, kSl2_ok, kSl3_ok, r_ptN, r_ptS, optI_ok, r_nil, r_seq, kSeq_nx, kSeq_rt, kSeq_xc, kSeq_bk, kSeq_ct, r_clr, kClr_nx, kClr_rt, kClr_xc, kClr_bk, kClr_ct, clr_nil, clr_cons, r_set, kSet_ok, kSet_exc, r_expr, kExpr_ok, kExpr_exc, r_ret, kRet_ok, kRet_exc, r_retN, r_if, kSIf_t, kSIf_f, kSIf_exc, r_brk, r_cont, r_for, kFor_ok,
  kItA_ok, kIt_some, r_itL, r_itT, r_itS, r_itR1, r_itR2, r_itEn, r_asg, kAsg_ok, sTgO_some, tgM_nm, setAllM_nil, setAllM_cons, r_aug, kAug1_ok, kAug2_ok, r_fs, kFS1_ok, kFS2_ok, nxO_some, r_sl1, kSL1_ok, kSL2_ok, kSL3_ok, r_fnB, kFn_nx, kFn_rt, kFn_xc, r_lc, kLc_ok, r_yes, r_tgtp, kTg_ok, r_items, r_itemsT, kItems_ok, r_self, kSelf_ok, kSelf_no, ne_eq, reduceCtorEq, not_false_eq_true, r_isiR, kIsi_ok, r_ty, kTy_l, r_getF, kGetF_ok, kLk_ok, lk_yes, r_setF, r_itLl, kItL_ok, r_isL, kIsL_ok, r_lApp, kApp_ok, r_getI, kGetI_ok, r_getIT, r_setI, kSetI_ok, kStO_ok, r_while, r_bm0, kBM0_ok, r_lClear, kClear_ok, r_len, kLen_ok, len_tup, r_sl4, kSl4_ok, stepQ_nx, stepQ_ct, stepQ_bk, stepQ_rt, stepQ_xc,
  Res.bind_ok, Res.bind_exc, Res.bind_stuck,
  List.map_cons, List.map_nil, List.length_cons, List.length_nil, List.replicate_succ, List.replicate_zero, List.cons_append, List.nil_append, List.append_nil, List.set_cons_succ, List.set_cons_zero, List.getElem?_cons_succ, List.getElem?_cons_zero,
  Nat.reduceAdd, Nat.reduceSub, Nat.zero_add, Nat.sub_self, Bool.not_true, Bool.not_false, eq_self_iff_true, ty_non, it_NoneType_bool, it_NoneType_str, it_NoneType_int, it_NoneType_tuple, it_NoneType_list, it_NoneType_dict, it_bool_bool, it_bool_str, it_bool_int, it_bool_tuple, it_bool_list, it_bool_dict, it_int_bool, it_int_str, it_int_int, it_int_tuple, it_int_list, it_int_dict, it_str_bool, it_str_str, it_str_int, it_str_tuple, it_str_list, it_str_dict, it_tuple_bool, it_tuple_str, it_tuple_int, it_tuple_tuple, it_tuple_list, it_tuple_dict, it_list_bool, it_list_str, it_list_int, it_list_tuple, it_list_list, it_list_dict, is_non, isN_non, eq_non, eq_bl, decide_true]
    | bool b => rw [sx.2.1 b rfl, sy.2.1 b rfl]; simp -implicitDefEqProofs only [r_var, kVar_ok, r_c, r_op2, kOpA_ok, kOpA_exc, kOpB_ok, kOpB_exc, r_test, r_asB, r_and, r_or, r_not, kAnd_t, kAnd_f, kAnd_exc, kOr_t, kOr_f, kOr_exc, kNot_ok, kNot_exc, r_mand, r_mor, r_mnot, kMAnd_t, kMAnd_f, kMOr_t, kMOr_f, kMNot_ok, r_ife, kIfE_t, kIfE_f, kIfE_exc,
  r_anil, r_acons, kArg_ok, kArg_exc, kArgs_ok, kArgs_exc, r_tup, r_lst, r_fld, r_call, kCall_ok, kCall_exc, r_call0, noX_ok, r_meth, kM1_ok, kM1_exc, kM2_ok, kM2_stuck, kM3_ok, kM3_exc, r_meth0, kN1_ok, kN1_exc, kN2_ok, kN2_stuck, r_make, kMake_ok, mkEnd_ok, r_cb, r_isi, r_bm, kBM1_ok, kBM2_ok, r_alt, kAlt_ok, kAlt_exc, kAlt_stuck,
  r_sl, kSl1_ok, kSl2_ok, kSl3_ok, r_ptN, r_ptS, optI_ok, r_nil, r_seq, kSeq_nx, kSeq_rt, kSeq_xc, kSeq_bk, kSeq_ct, r_clr, kClr_nx, kClr_rt, kClr_xc, kClr_bk, kClr_ct, clr_nil, clr_cons, r_set, kSet_ok, kSet_exc, r_expr, kExpr_ok, kExpr_exc, r_ret, kRet_ok, kRet_exc, r_retN, r_if, kSIf_t, kSIf_f, kSIf_exc, r_brk, r_cont, r_for, kFor_ok,
  kItA_ok, kIt_some, r_itL, r_itT, r_itS, r_itR1, r_itR2, r_itEn, r_asg, kAsg_ok, sTgO_some, tgM_nm, setAllM_nil, setAllM_cons, r_aug, kAug1_ok, kAug2_ok, r_fs, kFS1_ok, kFS2_ok, nxO_some, r_sl1, kSL1_ok, kSL2_ok, kSL3_ok, r_fnB, kFn_nx, kFn_rt, kFn_xc, r_lc, kLc_ok, r_yes, r_tgtp, kTg_ok, r_items, r_itemsT, kItems_ok, r_self, kSelf_ok, kSelf_no, ne_eq, reduceCtorEq, not_false_eq_true, r_isiR, kIsi_ok, r_ty, kTy_l, r_getF, kGetF_ok, kLk_ok, lk_yes, r_setF, r_itLl, kItL_ok, r_isL, kIsL_ok, r_lApp, kApp_ok, r_getI, kGetI_ok, r_getIT, r_setI, kSetI_ok, kStO_ok, r_while, r_bm0, kBM0_ok, r_lClear, kClear_ok, r_len, kLen_ok, len_tup, r_sl4, kSl4_ok, stepQ_nx, stepQ_ct, stepQ_bk, stepQ_rt, stepQ_xc,
  Res.bind_ok, Res.bind_exc, Res.bind_stuck,
  List.map_cons, List.map_nil, List.length_cons, List.length_nil, List.replicate_succ, List.replicate_zero, List.cons_append, List.nil_append, List.append_nil, List.set_cons_succ, List.set_cons_zero, List.getElem?_cons_succ, List.getElem?_cons_zero,
  Nat.reduceAdd, Nat.reduceSub, Nat.zero_add, Nat.sub_self, Bool.not_true, Bool.not_false, eq_self_iff_true, ty_bl, it_NoneType_bool, it_NoneType_str, it_NoneType_int, it_NoneType_tuple, it_NoneType_list, it_NoneType_dict, it_bool_bool, it_bool_str, it_bool_int, it_bool_tuple, it_bool_list, it_bool_dict, it_int_bool, it_int_str, it_int_int, it_int_tuple, it_int_list, it_int_dict, it_str_bool, it_str_str, it_str_int, it_str_tuple, it_str_list, it_str_dict, it_tuple_bool, it_tuple_str, it_tuple_int, it_tuple_tuple, it_tuple_list, it_tuple_dict, it_list_bool, it_list_str, it_list_int, it_list_tuple, it_list_list, it_list_dict, eq_bl, decide_true]
    | int i => rw [sx.2.2.1 i rfl, sy.2.2.1 i rfl]; simp -implicitDefEqProofs only [r_var, kVar_ok, r_c, r_op2, kOpA_ok, kOpA_exc, kOpB_ok, kOpB_exc, r_test, r_asB, r_and, r_or, r_not, kAnd_t, kAnd_f, kAnd_exc, kOr_t, kOr_f, kOr_exc, kNot_ok, kNot_exc, r_mand, r_mor, r_mnot, kMAnd_t, kMAnd_f, kMOr_t, kMOr_f, kMNot_ok, r_ife, kIfE_t, kIfE_f, kIfE_exc,
  r_anil, r_acons, kArg_ok, kArg_exc, kArgs_ok, kArgs_exc, r_tup, r_lst, r_fld, r_call, kCall_ok, kCall_exc, r_call0, noX_ok, r_meth, kM1_ok, kM1_exc, kM2_ok, kM2_stuck, kM3_ok, kM3_exc, r_meth0, kN1_ok, kN1_exc, kN2_ok, kN2_stuck, r_make, kMake_ok, mkEnd_ok, r_cb, r_isi, r_bm, kBM1_ok, kBM2_ok, r_alt, kAlt_ok, kAlt_exc, kAlt_stuck,
  r_sl, kSl1_ok, kSl2_ok, kSl3_ok, r_ptN, r_ptS, optI_ok, r_nil, r_seq, kSeq_nx, kSeq_rt, kSeq_xc, kSeq_bk, kSeq_ct, r_clr, kClr_nx, kClr_rt, kClr_xc, kClr_bk, kClr_ct, clr_nil, clr_cons, r_set, kSet_ok, kSet_exc, r_expr, kExpr_ok, kExpr_exc, r_ret, kRet_ok, kRet_exc, r_retN, r_if, kSIf_t, kSIf_f, kSIf_exc, r_brk, r_cont, r_for, kFor_ok,
  kItA_ok, kIt_some, r_itL, r_itT, r_itS, r_itR1, r_itR2, r_itEn, r_asg, kAsg_ok, sTgO_some, tgM_nm, setAllM_nil, setAllM_cons, r_aug, kAug1_ok, kAug2_ok, r_fs, kFS1_ok, kFS2_ok, nxO_some, r_sl1, kSL1_ok, kSL2_ok, kSL3_ok, r_fnB, kFn_nx, kFn_rt, kFn_xc, r_lc, kLc_ok, r_yes, r_tgtp, kTg_ok, r_items, r_itemsT, kItems_ok, r_self, kSelf_ok, kSelf_no, ne_eq, reduceCtorEq, not_false_eq_true, r_isiR, kIsi_ok, r_ty, kTy_l, r_getF, kGetF_ok, kLk_ok, lk_yes, r_setF, r_itLl, kItL_ok, r_isL, kIsL_ok, r_lApp, kApp_ok, r_getI, kGetI_ok, r_getIT, r_setI, kSetI_ok, kStO_ok, r_while, r_bm0, kBM0_ok, r_lClear, kClear_ok, r_len, kLen_ok, len_tup, r_sl4, kSl4_ok, stepQ_nx, stepQ_ct, stepQ_bk, stepQ_rt, stepQ_xc,
  Res.bind_ok, Res.bind_exc, Res.bind_stuck,
  List.map_cons, List.map_nil, List.length_cons, List.length_nil, List.replicate_succ, List.replicate_zero, List.cons_append, List.nil_append, List.append_nil, List.set_cons_succ, List.set_cons_zero, List.getElem?_cons_succ, List.getElem?_cons_zero,
  Nat.reduceAdd, Nat.reduceSub, Nat.zero_add, Nat.sub_self, Bool.not_true, Bool.not_false, eq_self_iff_true, ty_int, it_NoneType_bool, it_NoneType_str, it_NoneType_int, it_NoneType_tuple, it_NoneType_list, it_NoneType_dict, it_bool_bool, it_bool_str, it_bool_int, it_bool_tuple, it_bool_list, it_bool_dict, it_int_bool, it_int_str, it_int_int, it_int_tuple, it_int_list, it_int_dict, it_str_bool, it_str_str, it_str_int, it_str_tuple, it_str_list, it_str_dict, it_tuple_bool, it_tuple_str, it_tuple_int, it_tuple_tuple, it_tuple_list, it_tuple_dict, it_list_bool, it_list_str, it_list_int, it_list_tuple, it_list_list, it_list_dict, is_non, isN_int, eq_int, decide_true]
    | str z => rw [sx.2.2.2.1 z rfl, sy.2.2.2.1 z rfl]; simp -implicitDefEqProofs only [r_var, kVar_ok, r_c, r_op2, kOpA_ok, kOpA_exc, kOpB_ok, kOpB_exc, r_test, r_asB, r_and, r_or, r_not, kAnd_t, kAnd_f, kAnd_exc, kOr_t, kOr_f, kOr_exc, kNot_ok, kNot_exc, r_mand, r_mor, r_mnot, kMAnd_t, kMAnd_f, kMOr_t, kMOr_f, kMNot_ok, r_ife, kIfE_t, kIfE_f, kIfE_exc,
  r_anil, r_acons, kArg_ok, kArg_exc, kArgs_ok, kArgs_exc, r_tup, r_lst, r_fld, r_call, kCall_ok, kCall_exc, r_call0, noX_ok, r_meth, kM1_ok, kM1_exc, kM2_ok, kM2_stuck, kM3_ok, kM3_exc, r_meth0, kN1_ok, kN1_exc, kN2_ok, kN2_stuck, r_make, kMake_ok, mkEnd_ok, r_cb, r_isi, r_bm, kBM1_ok, kBM2_ok, r_alt, kAlt_ok, kAlt_exc, kAlt_stuck,
  r_sl, kSl1_ok, kSl2_ok, kSl3_ok, r_ptN, r_ptS, optI_ok, r_nil, r_seq, kSeq_nx, kSeq_rt, kSeq_xc, kSeq_bk, kSeq_ct, r_clr, kClr_nx, kClr_rt, kClr_xc, kClr_bk, kClr_ct, clr_nil, clr_cons, r_set, kSet_ok, kSet_exc, r_expr, kExpr_ok, kExpr_exc, r_ret, kRet_ok, kRet_exc, r_retN, r_if, kSIf_t, kSIf_f, kSIf_exc, r_brk, r_cont, r_for, kFor_ok,
  kItA_ok, kIt_some, r_itL, r_itT, r_itS, r_itR1, r_itR2, r_itEn, r_asg, kAsg_ok, sTgO_some, tgM_nm, setAllM_nil, setAllM_cons, r_aug, kAug1_ok, kAug2_ok, r_fs, kFS1_ok, kFS2_ok, nxO_some, r_sl1, kSL1_ok, kSL2_ok, kSL3_ok, r_fnB, kFn_nx, kFn_rt, kFn_xc, r_lc, kLc_ok, r_yes, r_tgtp, kTg_ok, r_items, r_itemsT, kItems_ok, r_self, kSelf_ok, kSelf_no, ne_eq, reduceCtorEq, not_false_eq_true, r_isiR, kIsi_ok, r_ty, kTy_l, r_getF, kGetF_ok, kLk_ok, lk_yes, r_setF, r_itLl, kItL_ok, r_isL, kIsL_ok, r_lApp, kApp_ok, r_getI, kGetI_ok, r_getIT, r_setI, kSetI_ok, kStO_ok, r_while, r_bm0, kBM0_ok, r_lClear, kClear_ok, r_len, kLen_ok, len_tup, r_sl4, kSl4_ok, stepQ_nx, stepQ_ct, stepQ_bk, stepQ_rt, stepQ_xc,
  Res.bind_ok, Res.bind_exc, Res.bind_stuck,
  List.map_cons, List.map_nil, List.length_cons, List.length_nil, List.replicate_succ, List.replicate_zero, List.cons_append, List.nil_append, List.append_nil, List.set_cons_succ, List.set_cons_zero, List.getElem?_cons_succ, List.getElem?_cons_zero,
  Nat.reduceAdd, Nat.reduceSub, Nat.zero_add, Nat.sub_self, Bool.not_true, Bool.not_false, eq_self_iff_true, ty_str, it_NoneType_bool, it_NoneType_str, it_NoneType_int, it_NoneType_tuple, it_NoneType_list, it_NoneType_dict, it_bool_bool, it_bool_str, it_bool_int, it_bool_tuple, it_bool_list, it_bool_dict, it_int_bool, it_int_str, it_int_int, it_int_tuple, it_int_list, it_int_dict, it_str_bool, it_str_str, it_str_int, it_str_tuple, it_str_list, it_str_dict, it_tuple_bool, it_tuple_str, it_tuple_int, it_tuple_tuple, it_tuple_list, it_tuple_dict, it_list_bool, it_list_str, it_list_int, it_list_tuple, it_list_list, it_list_dict, is_non, isN_str, eq_str, eq_bl, decide_true]
    | dict q => exact absurd rfl (sx.2.2.2.2.1 q)
    | list ps =>
      obtain ⟨a, fz, xs, rfl, ha, oa⟩ := pd_list_inv hx
      obtain ⟨b, gz, ys, rfl, hb, ob⟩ := pd_list_inv hy
      obtain ⟨l1, k1⟩ := optAll_get oa
      obtain ⟨l2, k2⟩ := optAll_get ob
      simp only [smallP, Bool.and_eq_true, decide_eq_true_eq] at hs
      simp only [PyData.canLay0] at hl
      have d1 : decide ((xs.length : Int) = (ys.length : Int)) = true := decide_eq_true (by omega)
      simp -implicitDefEqProofs only [r_var, kVar_ok, r_c, r_op2, kOpA_ok, kOpA_exc, kOpB_ok, kOpB_exc, r_test, r_asB, r_and, r_or, r_not, kAnd_t, kAnd_f, kAnd_exc, kOr_t, kOr_f, kOr_exc, kNot_ok, kNot_exc, r_mand, r_mor, r_mnot, kMAnd_t, kMAnd_f, kMOr_t, kMOr_f, kMNot_ok, r_ife, kIfE_t, kIfE_f, kIfE_exc,
  r_anil, r_acons, kArg_ok, kArg_exc, kArgs_ok, kArgs_exc, r_tup, r_lst, r_fld, r_call, kCall_ok, kCall_exc, r_call0, noX_ok, r_meth, kM1_ok, kM1_exc, kM2_ok, kM2_stuck, kM3_ok, kM3_exc, r_meth0, kN1_ok, kN1_exc, kN2_ok, kN2_stuck, r_make, kMake_ok, mkEnd_ok, r_cb, r_isi, r_bm, kBM1_ok, kBM2_ok, r_alt, kAlt_ok, kAlt_exc, kAlt_stuck,
  r_sl, kSl1_ok, kSl2_ok, kSl3_ok, r_ptN, r_ptS, optI_ok, r_nil, r_seq, kSeq_nx, kSeq_rt, kSeq_xc, kSeq_bk, kSeq_ct, r_clr, kClr_nx, kClr_rt, kClr_xc, kClr_bk, kClr_ct, clr_nil, clr_cons, r_set, kSet_ok, kSet_exc, r_expr, kExpr_ok, kExpr_exc, r_ret, kRet_ok, kRet_exc, r_retN, r_if, kSIf_t, kSIf_f, kSIf_exc, r_brk, r_cont, r_for, kFor_ok,
  kItA_ok, kIt_some, r_itL, r_itT, r_itS, r_itR1, r_itR2, r_itEn, r_asg, kAsg_ok, sTgO_some, tgM_nm, setAllM_nil, setAllM_cons, r_aug, kAug1_ok, kAug2_ok, r_fs, kFS1_ok, kFS2_ok, nxO_some, r_sl1, kSL1_ok, kSL2_ok, kSL3_ok, r_fnB, kFn_nx, kFn_rt, kFn_xc, r_lc, kLc_ok, r_yes, r_tgtp, kTg_ok, r_items, r_itemsT, kItems_ok, r_self, kSelf_ok, kSelf_no, ne_eq, reduceCtorEq, not_false_eq_true, r_isiR, kIsi_ok, r_ty, kTy_l, r_getF, kGetF_ok, kLk_ok, lk_yes, r_setF, r_itLl, kItL_ok, r_isL, kIsL_ok, r_lApp, kApp_ok, r_getI, kGetI_ok, r_getIT, r_setI, kSetI_ok, kStO_ok, r_while, r_bm0, kBM0_ok, r_lClear, kClear_ok, r_len, kLen_ok, len_tup, r_sl4, kSl4_ok, stepQ_nx, stepQ_ct, stepQ_bk, stepQ_rt, stepQ_xc,
  Res.bind_ok, Res.bind_exc, Res.bind_stuck,
  List.map_cons, List.map_nil, List.length_cons, List.length_nil, List.replicate_succ, List.replicate_zero, List.cons_append, List.nil_append, List.append_nil, List.set_cons_succ, List.set_cons_zero, List.getElem?_cons_succ, List.getElem?_cons_zero,
  Nat.reduceAdd, Nat.reduceSub, Nat.zero_add, Nat.sub_self, Bool.not_true, Bool.not_false, eq_self_iff_true, ha, hb, it_NoneType_bool, it_NoneType_str, it_NoneType_int, it_NoneType_tuple, it_NoneType_list, it_NoneType_dict, it_bool_bool, it_bool_str, it_bool_int, it_bool_tuple, it_bool_list, it_bool_dict, it_int_bool, it_int_str, it_int_int, it_int_tuple, it_int_list, it_int_dict, it_str_bool, it_str_str, it_str_int, it_str_tuple, it_str_list, it_str_dict, it_tuple_bool, it_tuple_str, it_tuple_int, it_tuple_tuple, it_tuple_list, it_tuple_dict, it_list_bool, it_list_str, it_list_int, it_list_tuple, it_list_list, it_list_dict, is_non, isN_loc, ne_bl, decide_true, ne_int, d1, itR1_ok (show (0 : Int) ≤ (ys.length : Int) by omega) (show (ys.length : Int) < 2 ^ 62 by omega), Int.toNat_natCast]
      generalize hf : forGo _ _ _ _ _ _ _ = r
      have hr : r = .nx [some (.loc a), some (.loc b), none, none] S := by
        refine forR hf (fun i ρ S' => ρ = [some (.loc a), some (.loc b), none, none] ∧ S' = S) (fun r => r = .nx [some (.loc a), some (.loc b), none, none] S) (by omega) ⟨rfl, rfl⟩ ?_ ?_
        · rintro i ρ S' hi ⟨rfl, rfl⟩
          refine ⟨_, rfl, ?_⟩
          obtain ⟨u, hu⟩ : ∃ u, xs[i]? = some u := ⟨_, List.getElem?_eq_getElem (by omega)⟩
          obtain ⟨v, hv⟩ : ∃ v, ys[i]? = some v := ⟨_, List.getElem?_eq_getElem (by omega)⟩
          obtain ⟨p1, e1, e2⟩ := k1 i u hu
          obtain ⟨p2, e3, e4⟩ := k2 i v hv
          rw [e1] at e3
          cases e3
          have q := ih e2 e4 (layAll_get hl e1) (smallAll_get hs.2 e1)
          simp -implicitDefEqProofs only [r_var, kVar_ok, r_c, r_op2, kOpA_ok, kOpA_exc, kOpB_ok, kOpB_exc, r_test, r_asB, r_and, r_or, r_not, kAnd_t, kAnd_f, kAnd_exc, kOr_t, kOr_f, kOr_exc, kNot_ok, kNot_exc, r_mand, r_mor, r_mnot, kMAnd_t, kMAnd_f, kMOr_t, kMOr_f, kMNot_ok, r_ife, kIfE_t, kIfE_f, kIfE_exc,
  r_anil, r_acons, kArg_ok, kArg_exc, kArgs_ok, kArgs_exc, r_tup, r_lst, r_fld, r_call, kCall_ok, kCall_exc, r_call0, noX_ok, r_meth, kM1_ok, kM1_exc, kM2_ok, kM2_stuck, kM3_ok, kM3_exc, r_meth0, kN1_ok, kN1_exc, kN2_ok, kN2_stuck, r_make, kMake_ok, mkEnd_ok, r_cb, r_isi, r_bm, kBM1_ok, kBM2_ok, r_alt, kAlt_ok, kAlt_exc, kAlt_stuck,
  r_sl, kSl1_ok, kSl2_ok, kSl3_ok, r_ptN, r_ptS, optI_ok, r_nil, r_seq, kSeq_nx, kSeq_rt, kSeq_xc, kSeq_bk, kSeq_ct, r_clr, kClr_nx, kClr_rt, kClr_xc, kClr_bk, kClr_ct, clr_nil, clr_cons, r_set, kSet_ok, kSet_exc, r_expr, kExpr_ok, kExpr_exc, r_ret, kRet_ok, kRet_exc, r_retN, r_if, kSIf_t, kSIf_f, kSIf_exc, r_brk, r_cont, r_for, kFor_ok,
  kItA_ok, kIt_some, r_itL, r_itT, r_itS, r_itR1, r_itR2, r_itEn, r_asg, kAsg_ok, sTgO_some, tgM_nm, setAllM_nil, setAllM_cons, r_aug, kAug1_ok, kAug2_ok, r_fs, kFS1_ok, kFS2_ok, nxO_some, r_sl1, kSL1_ok, kSL2_ok, kSL3_ok, r_fnB, kFn_nx, kFn_rt, kFn_xc, r_lc, kLc_ok, r_yes, r_tgtp, kTg_ok, r_items, r_itemsT, kItems_ok, r_self, kSelf_ok, kSelf_no, ne_eq, reduceCtorEq, not_false_eq_true, r_isiR, kIsi_ok, r_ty, kTy_l, r_getF, kGetF_ok, kLk_ok, lk_yes, r_setF, r_itLl, kItL_ok, r_isL, kIsL_ok, r_lApp, kApp_ok, r_getI, kGetI_ok, r_getIT, r_setI, kSetI_ok, kStO_ok, r_while, r_bm0, kBM0_ok, r_lClear, kClear_ok, r_len, kLen_ok, len_tup, r_sl4, kSl4_ok, stepQ_nx, stepQ_ct, stepQ_bk, stepQ_rt, stepQ_xc,
  Res.bind_ok, Res.bind_exc, Res.bind_stuck,
  List.map_cons, List.map_nil, List.length_cons, List.length_nil, List.replicate_succ, List.replicate_zero, List.cons_append, List.nil_append, List.append_nil, List.set_cons_succ, List.set_cons_zero, List.getElem?_cons_succ, List.getElem?_cons_zero,
  Nat.reduceAdd, Nat.reduceSub, Nat.zero_add, Nat.sub_self, Bool.not_true, Bool.not_false, eq_self_iff_true, Int.zero_add, ha, hb, atI_nat hu, atI_nat hv, q, and_self]
        · rintro ρ S' ⟨rfl, rfl⟩
          rfl
      subst hr
      simp -implicitDefEqProofs only [r_var, kVar_ok, r_c, r_op2, kOpA_ok, kOpA_exc, kOpB_ok, kOpB_exc, r_test, r_asB, r_and, r_or, r_not, kAnd_t, kAnd_f, kAnd_exc, kOr_t, kOr_f, kOr_exc, kNot_ok, kNot_exc, r_mand, r_mor, r_mnot, kMAnd_t, kMAnd_f, kMOr_t, kMOr_f, kMNot_ok, r_ife, kIfE_t, kIfE_f, kIfE_exc,
  r_anil, r_acons, kArg_ok, kArg_exc, kArgs_ok, kArgs_exc, r_tup, r_lst, r_fld, r_call, kCall_ok, kCall_exc, r_call0, noX_ok, r_meth, kM1_ok, kM1_exc, kM2_ok, kM2_stuck, kM3_ok, kM3_exc, r_meth0, kN1_ok, kN1_exc, kN2_ok, kN2_stuck, r_make, kMake_ok, mkEnd_ok, r_cb, r_isi, r_bm, kBM1_ok, kBM2_ok, r_alt, kAlt_ok, kAlt_exc, kAlt_stuck,
  r_sl, kSl1_ok, kSl2_ok, kSl3_ok, r_ptN, r_ptS, optI_ok, r_nil, r_seq, kSeq_nx, kSeq_rt, kSeq_xc, kSeq_bk, kSeq_ct, r_clr, kClr_nx, kClr_rt, kClr_xc, kClr_bk, kClr_ct, clr_nil, clr_cons, r_set, kSet_ok, kSet_exc, r_expr, kExpr_ok, kExpr_exc, r_ret, kRet_ok, kRet_exc, r_retN, r_if, kSIf_t, kSIf_f, kSIf_exc, r_brk, r_cont, r_for, kFor_ok,
  kItA_ok, kIt_some, r_itL, r_itT, r_itS, r_itR1, r_itR2, r_itEn, r_asg, kAsg_ok, sTgO_some, tgM_nm, setAllM_nil, setAllM_cons, r_aug, kAug1_ok, kAug2_ok, r_fs, kFS1_ok, kFS2_ok, nxO_some, r_sl1, kSL1_ok, kSL2_ok, kSL3_ok, r_fnB, kFn_nx, kFn_rt, kFn_xc, r_lc, kLc_ok, r_yes, r_tgtp, kTg_ok, r_items, r_itemsT, kItems_ok, r_self, kSelf_ok, kSelf_no, ne_eq, reduceCtorEq, not_false_eq_true, r_isiR, kIsi_ok, r_ty, kTy_l, r_getF, kGetF_ok, kLk_ok, lk_yes, r_setF, r_itLl, kItL_ok, r_isL, kIsL_ok, r_lApp, kApp_ok, r_getI, kGetI_ok, r_getIT, r_setI, kSetI_ok, kStO_ok, r_while, r_bm0, kBM0_ok, r_lClear, kClear_ok, r_len, kLen_ok, len_tup, r_sl4, kSl4_ok, stepQ_nx, stepQ_ct, stepQ_bk, stepQ_rt, stepQ_xc,
  Res.bind_ok, Res.bind_exc, Res.bind_stuck,
  List.map_cons, List.map_nil, List.length_cons, List.length_nil, List.replicate_succ, List.replicate_zero, List.cons_append, List.nil_append, List.append_nil, List.set_cons_succ, List.set_cons_zero, List.getElem?_cons_succ, List.getElem?_cons_zero,
  Nat.reduceAdd, Nat.reduceSub, Nat.zero_add, Nat.sub_self, Bool.not_true, Bool.not_false, eq_self_iff_true]
    | tuple ps =>
      obtain ⟨xs, rfl, oa⟩ := pd_tuple_inv hx
      obtain ⟨ys, rfl, ob⟩ := pd_tuple_inv hy
      obtain ⟨l1, k1⟩ := optAll_get oa
      obtain ⟨l2, k2⟩ := optAll_get ob
      simp only [smallP, Bool.and_eq_true, decide_eq_true_eq] at hs
      simp only [PyData.canLay0] at hl
      have d1 : decide ((xs.length : Int) = (ys.length : Int)) = true := decide_eq_true (by omega)
      simp -implicitDefEqProofs only [r_var, kVar_ok, r_c, r_op2, kOpA_ok, kOpA_exc, kOpB_ok, kOpB_exc, r_test, r_asB, r_and, r_or, r_not, kAnd_t, kAnd_f, kAnd_exc, kOr_t, kOr_f, kOr_exc, kNot_ok, kNot_exc, r_mand, r_mor, r_mnot, kMAnd_t, kMAnd_f, kMOr_t, kMOr_f, kMNot_ok, r_ife, kIfE_t, kIfE_f, kIfE_exc,
  r_anil, r_acons, kArg_ok, kArg_exc, kArgs_ok, kArgs_exc, r_tup, r_lst, r_fld, r_call, kCall_ok, kCall_exc, r_call0, noX_ok, r_meth, kM1_ok, kM1_exc, kM2_ok, kM2_stuck, kM3_ok, kM3_exc, r_meth0, kN1_ok, kN1_exc, kN2_ok, kN2_stuck, r_make, kMake_ok, mkEnd_ok, r_cb, r_isi, r_bm, kBM1_ok, kBM2_ok, r_alt, kAlt_ok, kAlt_exc, kAlt_stuck,
  r_sl, kSl1_ok, kSl2_ok, kSl3_ok, r_ptN, r_ptS, optI_ok, r_nil, r_seq, kSeq_nx, kSeq_rt, kSeq_xc, kSeq_bk, kSeq_ct, r_clr, kClr_nx, kClr_rt, kClr_xc, kClr_bk, kClr_ct, clr_nil, clr_cons, r_set, kSet_ok, kSet_exc, r_expr, kExpr_ok, kExpr_exc, r_ret, kRet_ok, kRet_exc, r_retN, r_if, kSIf_t, kSIf_f, kSIf_exc, r_brk, r_cont, r_for, kFor_ok,
  kItA_ok, kIt_some, r_itL, r_itT, r_itS, r_itR1, r_itR2, r_itEn, r_asg, kAsg_ok, sTgO_some, tgM_nm, setAllM_nil, setAllM_cons, r_aug, kAug1_ok, kAug2_ok, r_fs, kFS1_ok, kFS2_ok, nxO_some, r_sl1, kSL1_ok, kSL2_ok, kSL3_ok, r_fnB, kFn_nx, kFn_rt, kFn_xc, r_lc, kLc_ok, r_yes, r_tgtp, kTg_ok, r_items, r_itemsT, kItems_ok, r_self, kSelf_ok, kSelf_no, ne_eq, reduceCtorEq, not_false_eq_true, r_isiR, kIsi_ok, r_ty, kTy_l, r_getF, kGetF_ok, kLk_ok, lk_yes, r_setF, r_itLl, kItL_ok, r_isL, kIsL_ok, r_lApp, kApp_ok, r_getI, kGetI_ok, r_getIT, r_setI, kSetI_ok, kStO_ok, r_while, r_bm0, kBM0_ok, r_lClear, kClear_ok, r_len, kLen_ok, len_tup, r_sl4, kSl4_ok, stepQ_nx, stepQ_ct, stepQ_bk, stepQ_rt, stepQ_xc,
  Res.bind_ok, Res.bind_exc, Res.bind_stuck,
  List.map_cons, List.map_nil, List.length_cons, List.length_nil, List.replicate_succ, List.replicate_zero, List.cons_append, List.nil_append, List.append_nil, List.set_cons_succ, List.set_cons_zero, List.getElem?_cons_succ, List.getElem?_cons_zero,
  Nat.reduceAdd, Nat.reduceSub, Nat.zero_add, Nat.sub_self, Bool.not_true, Bool.not_false, eq_self_iff_true, ty_tup, it_NoneType_bool, it_NoneType_str, it_NoneType_int, it_NoneType_tuple, it_NoneType_list, it_NoneType_dict, it_bool_bool, it_bool_str, it_bool_int, it_bool_tuple, it_bool_list, it_bool_dict, it_int_bool, it_int_str, it_int_int, it_int_tuple, it_int_list, it_int_dict, it_str_bool, it_str_str, it_str_int, it_str_tuple, it_str_list, it_str_dict, it_tuple_bool, it_tuple_str, it_tuple_int, it_tuple_tuple, it_tuple_list, it_tuple_dict, it_list_bool, it_list_str, it_list_int, it_list_tuple, it_list_list, it_list_dict, is_non, isN_tup, ne_bl, decide_true, ne_int, d1, itR1_ok (show (0 : Int) ≤ (ys.length : Int) by omega) (show (ys.length : Int) < 2 ^ 62 by omega), Int.toNat_natCast]
      generalize hf : forGo _ _ _ _ _ _ _ = r
      have hr : r = .nx [some (.tup xs), some (.tup ys), none, none] S := by
        refine forR hf (fun i ρ S' => ρ = [some (.tup xs), some (.tup ys), none, none] ∧ S' = S) (fun r => r = .nx [some (.tup xs), some (.tup ys), none, none] S) (by omega) ⟨rfl, rfl⟩ ?_ ?_
        · rintro i ρ S' hi ⟨rfl, rfl⟩
          refine ⟨_, rfl, ?_⟩
          obtain ⟨u, hu⟩ : ∃ u, xs[i]? = some u := ⟨_, List.getElem?_eq_getElem (by omega)⟩
          obtain ⟨v, hv⟩ : ∃ v, ys[i]? = some v := ⟨_, List.getElem?_eq_getElem (by omega)⟩
          obtain ⟨p1, e1, e2⟩ := k1 i u hu
          obtain ⟨p2, e3, e4⟩ := k2 i v hv
          rw [e1] at e3
          cases e3
          have q := ih e2 e4 (layAll_get hl e1) (smallAll_get hs.2 e1)
          simp -implicitDefEqProofs only [r_var, kVar_ok, r_c, r_op2, kOpA_ok, kOpA_exc, kOpB_ok, kOpB_exc, r_test, r_asB, r_and, r_or, r_not, kAnd_t, kAnd_f, kAnd_exc, kOr_t, kOr_f, kOr_exc, kNot_ok, kNot_exc, r_mand, r_mor, r_mnot, kMAnd_t, kMAnd_f, kMOr_t, kMOr_f, kMNot_ok, r_ife, kIfE_t, kIfE_f, kIfE_exc,
  r_anil, r_acons, kArg_ok, kArg_exc, kArgs_ok, kArgs_exc, r_tup, r_lst, r_fld, r_call, kCall_ok, kCall_exc, r_call0, noX_ok, r_meth, kM1_ok, kM1_exc, kM2_ok, kM2_stuck, kM3_ok, kM3_exc, r_meth0, kN1_ok, kN1_exc, kN2_ok, kN2_stuck, r_make, kMake_ok, mkEnd_ok, r_cb, r_isi, r_bm, kBM1_ok, kBM2_ok, r_alt, kAlt_ok, kAlt_exc, kAlt_stuck,
  r_sl, kSl1_ok, kSl2_ok, kSl3_ok, r_ptN, r_ptS, optI_ok, r_nil, r_seq, kSeq_nx, kSeq_rt, kSeq_xc, kSeq_bk, kSeq_ct, r_clr, kClr_nx, kClr_rt, kClr_xc, kClr_bk, kClr_ct, clr_nil, clr_cons, r_set, kSet_ok, kSet_exc, r_expr, kExpr_ok, kExpr_exc, r_ret, kRet_ok, kRet_exc, r_retN, r_if, kSIf_t, kSIf_f, kSIf_exc, r_brk, r_cont, r_for, kFor_ok,
  kItA_ok, kIt_some, r_itL, r_itT, r_itS, r_itR1, r_itR2, r_itEn, r_asg, kAsg_ok, sTgO_some, tgM_nm, setAllM_nil, setAllM_cons, r_aug, kAug1_ok, kAug2_ok, r_fs, kFS1_ok, kFS2_ok, nxO_some, r_sl1, kSL1_ok, kSL2_ok, kSL3_ok, r_fnB, kFn_nx, kFn_rt, kFn_xc, r_lc, kLc_ok, r_yes, r_tgtp, kTg_ok, r_items, r_itemsT, kItems_ok, r_self, kSelf_ok, kSelf_no, ne_eq, reduceCtorEq, not_false_eq_true, r_isiR, kIsi_ok, r_ty, kTy_l, r_getF, kGetF_ok, kLk_ok, lk_yes, r_setF, r_itLl, kItL_ok, r_isL, kIsL_ok, r_lApp, kApp_ok, r_getI, kGetI_ok, r_getIT, r_setI, kSetI_ok, kStO_ok, r_while, r_bm0, kBM0_ok, r_lClear, kClear_ok, r_len, kLen_ok, len_tup, r_sl4, kSl4_ok, stepQ_nx, stepQ_ct, stepQ_bk, stepQ_rt, stepQ_xc,
  Res.bind_ok, Res.bind_exc, Res.bind_stuck,
  List.map_cons, List.map_nil, List.length_cons, List.length_nil, List.replicate_succ, List.replicate_zero, List.cons_append, List.nil_append, List.append_nil, List.set_cons_succ, List.set_cons_zero, List.getElem?_cons_succ, List.getElem?_cons_zero,
  Nat.reduceAdd, Nat.reduceSub, Nat.zero_add, Nat.sub_self, Bool.not_true, Bool.not_false, eq_self_iff_true, Int.zero_add, atI_nat hu, atI_nat hv, q, and_self]
        · rintro ρ S' ⟨rfl, rfl⟩
          rfl
      subst hr
      simp -implicitDefEqProofs only [r_var, kVar_ok, r_c, r_op2, kOpA_ok, kOpA_exc, kOpB_ok, kOpB_exc, r_test, r_asB, r_and, r_or, r_not, kAnd_t, kAnd_f, kAnd_exc, kOr_t, kOr_f, kOr_exc, kNot_ok, kNot_exc, r_mand, r_mor, r_mnot, kMAnd_t, kMAnd_f, kMOr_t, kMOr_f, kMNot_ok, r_ife, kIfE_t, kIfE_f, kIfE_exc,
  r_anil, r_acons, kArg_ok, kArg_exc, kArgs_ok, kArgs_exc, r_tup, r_lst, r_fld, r_call, kCall_ok, kCall_exc, r_call0, noX_ok, r_meth, kM1_ok, kM1_exc, kM2_ok, kM2_stuck, kM3_ok, kM3_exc, r_meth0, kN1_ok, kN1_exc, kN2_ok, kN2_stuck, r_make, kMake_ok, mkEnd_ok, r_cb, r_isi, r_bm, kBM1_ok, kBM2_ok, r_alt, kAlt_ok, kAlt_exc, kAlt_stuck,
  r_sl, kSl1_ok, kSl2_ok, kSl3_ok, r_ptN, r_ptS, optI_ok, r_nil, r_seq, kSeq_nx, kSeq_rt, kSeq_xc, kSeq_bk, kSeq_ct, r_clr, kClr_nx, kClr_rt, kClr_xc, kClr_bk, kClr_ct, clr_nil, clr_cons, r_set, kSet_ok, kSet_exc, r_expr, kExpr_ok, kExpr_exc, r_ret, kRet_ok, kRet_exc, r_retN, r_if, kSIf_t, kSIf_f, kSIf_exc, r_brk, r_cont, r_for, kFor_ok,
  kItA_ok, kIt_some, r_itL, r_itT, r_itS, r_itR1, r_itR2, r_itEn, r_asg, kAsg_ok, sTgO_some, tgM_nm, setAllM_nil, setAllM_cons, r_aug, kAug1_ok, kAug2_ok, r_fs, kFS1_ok, kFS2_ok, nxO_some, r_sl1, kSL1_ok, kSL2_ok, kSL3_ok, r_fnB, kFn_nx, kFn_rt, kFn_xc, r_lc, kLc_ok, r_yes, r_tgtp, kTg_ok, r_items, r_itemsT, kItems_ok, r_self, kSelf_ok, kSelf_no, ne_eq, reduceCtorEq, not_false_eq_true, r_isiR, kIsi_ok, r_ty, kTy_l, r_getF, kGetF_ok, kLk_ok, lk_yes, r_setF, r_itLl, kItL_ok, r_isL, kIsL_ok, r_lApp, kApp_ok, r_getI, kGetI_ok, r_getIT, r_setI, kSetI_ok, kStO_ok, r_while, r_bm0, kBM0_ok, r_lClear, kClear_ok, r_len, kLen_ok, len_tup, r_sl4, kSl4_ok, stepQ_nx, stepQ_ct, stepQ_bk, stepQ_rt, stepQ_xc,
  Res.bind_ok, Res.bind_exc, Res.bind_stuck,
  List.map_cons, List.map_nil, List.length_cons, List.length_nil, List.replicate_succ, List.replicate_zero, List.cons_append, List.nil_append, List.append_nil, List.set_cons_succ, List.set_cons_zero, List.getElem?_cons_succ, List.getElem?_cons_zero,
  Nat.reduceAdd, Nat.reduceSub, Nat.zero_add, Nat.sub_self, Bool.not_true, Bool.not_false, eq_self_iff_true]

/-! ### values of fields -/
def isField (x : D) : Prop := x = .tup [.str "nothing"] ∨ (∃ i, x = .tup [.str "number", .int i]) ∨ ∃ i, x = .tup [.str "thing", .int i]
def okf (x : D) : Prop := ∃ p : PyData, (∀ S n, pd S (n + 1) x = some p) ∧ p.canLay0 = true ∧ smallP p = true
def okfs (xs : List D) : Prop := ∀ x, x ∈ xs → okf x
theorem okf_int (i : Int) : okf (.int i) := ⟨.int i, fun _ _ => pd_int, rfl, rfl⟩
theorem okf_non : okf .non := ⟨.none, fun _ _ => pd_non, rfl, rfl⟩
theorem isField.ok {x : D} (h : isField x) : okf x := by
  rcases h with rfl | ⟨i, rfl⟩ | ⟨i, rfl⟩
  · exact ⟨.tuple [.str "nothing"], fun _ _ => pd_tup (optAll_cons pd_str rfl), by simp only [PyData.canLay0, PyData.canLayAll0, Bool.and_true]; decide +kernel, by simp [smallP, smallAll]⟩
  · exact ⟨.tuple [.str "number", .int i], fun _ _ => pd_tup (optAll_cons pd_str (optAll_cons pd_int rfl)), by simp only [PyData.canLay0, PyData.canLayAll0, Bool.and_true]; decide +kernel, by simp [smallP, smallAll]⟩
  · exact ⟨.tuple [.str "thing", .int i], fun _ _ => pd_tup (optAll_cons pd_str (optAll_cons pd_int rfl)), by simp only [PyData.canLay0, PyData.canLayAll0, Bool.and_true]; decide +kernel, by simp [smallP, smallAll]⟩
theorem okf_pair {i : Int} {v : D} (h : isField v) : ∃ p : PyData, (∀ S n, pd S (n + 2) (.tup [.int i, v]) = some p) ∧ p.canLay0 = true ∧ smallP p = true := by
  obtain ⟨p, e, l, z⟩ := h.ok
  exact ⟨.tuple [.int i, p], fun S n => pd_tup (optAll_cons pd_int (optAll_cons (e S n) rfl)), by simp only [PyData.canLay0, PyData.canLayAll0, l, Bool.and_true, Bool.and_self], by simp [smallP, smallAll, z]⟩
theorem okfs_pd : ∀ {xs : List D}, okfs xs → ∃ ps : List PyData, (∀ S n, optAll (pd S (n + 1)) xs = some ps) ∧ PyData.canLayAll0 ps = true ∧ smallAll ps = true ∧ ps.length = xs.length
  | [], _ => ⟨[], fun _ _ => rfl, rfl, rfl, rfl⟩
  | x :: xs, h => by
    obtain ⟨ps, h1, h2, h3, h4⟩ := okfs_pd (xs := xs) fun y hy => h y (List.mem_cons_of_mem _ hy)
    obtain ⟨p, e, l, z⟩ := h x List.mem_cons_self
    exact ⟨p :: ps, fun S n => optAll_cons (e S n) (h1 S n), by simp only [PyData.canLayAll0, l, h2, Bool.and_self], by simp only [smallAll, z, h3, Bool.and_self], by simp [h4]⟩
def isTh (x : D) : Bool := match x with
  | .tup (.str s :: _) => decide (s = "thing")
  | _ => false
def idx (x : D) : D := match x with
  | .tup [_, v] => v
  | _ => .non
def holdsOf (fs : List D) : List D := (fs.filter isTh).map idx
theorem th_n : decide (("nothing" : Str) = "thing") = false := by decide +kernel
theorem th_m : decide (("number" : Str) = "thing") = false := by decide +kernel
theorem th_t : decide (("thing" : Str) = "thing") = true := by decide +kernel
theorem a0_1 (a : D) (S : Sto) : kLk (atI [a] 0) S = .ok a S := rfl
theorem a0_2 (a b : D) (S : Sto) : kLk (atI [a, b] 0) S = .ok a S := rfl
theorem a1_2 (a b : D) (S : Sto) : kLk (atI [a, b] 1) S = .ok b S := rfl
theorem is_thing_spec {x : D} (h : isField x) (S : Sto) : f_is_thing [x] S = .ok (.bl (isTh x)) S := by
  unfold f_is_thing b_is_thing
  rcases h with rfl | ⟨i, rfl⟩ | ⟨i, rfl⟩
  · simp -implicitDefEqProofs only [r_var, kVar_ok, r_c, r_op2, kOpA_ok, kOpA_exc, kOpB_ok, kOpB_exc, r_test, r_asB, r_and, r_or, r_not, kAnd_t, kAnd_f, kAnd_exc, kOr_t, kOr_f, kOr_exc, kNot_ok, kNot_exc, r_mand, r_mor, r_mnot, kMAnd_t, kMAnd_f, kMOr_t, kMOr_f, kMNot_ok, r_ife, kIfE_t, kIfE_f, kIfE_exc,
  r_anil, r_acons, kArg_ok, kArg_exc, kArgs_ok, kArgs_exc, r_tup, r_lst, r_fld, r_call, kCall_ok, kCall_exc, r_call0, noX_ok, r_meth, kM1_ok, kM1_exc, kM2_ok, kM2_stuck, kM3_ok, kM3_exc, r_meth0, kN1_ok, kN1_exc, kN2_ok, kN2_stuck, r_make, kMake_ok, mkEnd_ok, r_cb, r_isi, r_bm, kBM1_ok, kBM2_ok, r_alt, kAlt_ok, kAlt_exc, kAlt_stuck,
  r_sl, kSl1_ok, kSl2_ok, kSl3_ok, r_ptN, r_ptS, optI_ok, r_nil, r_seq, kSeq_nx, kSeq_rt, kSeq_xc, kSeq_bk, kSeq_ct, r_clr, kClr_nx, kClr_rt, kClr_xc, kClr_bk, kClr_ct, clr_nil, clr_cons, r_set, kSet_ok, kSet_exc, r_expr, kExpr_ok, kExpr_exc, r_ret, kRet_ok, kRet_exc, r_retN, r_if, kSIf_t, kSIf_f, kSIf_exc, r_brk, r_cont, r_for, kFor_ok,
  kItA_ok, kIt_some, r_itL, r_itT, r_itS, r_itR1, r_itR2, r_itEn, r_asg, kAsg_ok, sTgO_some, tgM_nm, setAllM_nil, setAllM_cons, r_aug, kAug1_ok, kAug2_ok, r_fs, kFS1_ok, kFS2_ok, nxO_some, r_sl1, kSL1_ok, kSL2_ok, kSL3_ok, r_fnB, kFn_nx, kFn_rt, kFn_xc, r_lc, kLc_ok, r_yes, r_tgtp, kTg_ok, r_items, r_itemsT, kItems_ok, r_self, kSelf_ok, kSelf_no, ne_eq, reduceCtorEq, not_false_eq_true, r_isiR, kIsi_ok, r_ty, kTy_l, r_getF, kGetF_ok, kLk_ok, lk_yes, r_setF, r_itLl, kItL_ok, r_isL, kIsL_ok, r_lApp, kApp_ok, r_getI, kGetI_ok, r_getIT, r_setI, kSetI_ok, kStO_ok, r_while, r_bm0, kBM0_ok, r_lClear, kClear_ok, r_len, kLen_ok, len_tup, r_sl4, kSl4_ok, stepQ_nx, stepQ_ct, stepQ_bk, stepQ_rt, stepQ_xc,
  Res.bind_ok, Res.bind_exc, Res.bind_stuck,
  List.map_cons, List.map_nil, List.length_cons, List.length_nil, List.replicate_succ, List.replicate_zero, List.cons_append, List.nil_append, List.append_nil, List.set_cons_succ, List.set_cons_zero, List.getElem?_cons_succ, List.getElem?_cons_zero,
  Nat.reduceAdd, Nat.reduceSub, Nat.zero_add, Nat.sub_self, Bool.not_true, Bool.not_false, eq_self_iff_true, a0_1, eq_str, isTh]
  · simp -implicitDefEqProofs only [r_var, kVar_ok, r_c, r_op2, kOpA_ok, kOpA_exc, kOpB_ok, kOpB_exc, r_test, r_asB, r_and, r_or, r_not, kAnd_t, kAnd_f, kAnd_exc, kOr_t, kOr_f, kOr_exc, kNot_ok, kNot_exc, r_mand, r_mor, r_mnot, kMAnd_t, kMAnd_f, kMOr_t, kMOr_f, kMNot_ok, r_ife, kIfE_t, kIfE_f, kIfE_exc,
  r_anil, r_acons, kArg_ok, kArg_exc, kArgs_ok, kArgs_exc, r_tup, r_lst, r_fld, r_call, kCall_ok, kCall_exc, r_call0, noX_ok, r_meth, kM1_ok, kM1_exc, kM2_ok, kM2_stuck, kM3_ok, kM3_exc, r_meth0, kN1_ok, kN1_exc, kN2_ok, kN2_stuck, r_make, kMake_ok, mkEnd_ok, r_cb, r_isi, r_bm, kBM1_ok, kBM2_ok, r_alt, kAlt_ok, kAlt_exc, kAlt_stuck,
  r_sl, kSl1_ok, kSl2_ok, kSl3_ok, r_ptN, r_ptS, optI_ok, r_nil, r_seq, kSeq_nx, kSeq_rt, kSeq_xc, kSeq_bk, kSeq_ct, r_clr, kClr_nx, kClr_rt, kClr_xc, kClr_bk, kClr_ct, clr_nil, clr_cons, r_set, kSet_ok, kSet_exc, r_expr, kExpr_ok, kExpr_exc, r_ret, kRet_ok, kRet_exc, r_retN, r_if, kSIf_t, kSIf_f, kSIf_exc, r_brk, r_cont, r_for, kFor_ok,
  kItA_ok, kIt_some, r_itL, r_itT, r_itS, r_itR1, r_itR2, r_itEn, r_asg, kAsg_ok, sTgO_some, tgM_nm, setAllM_nil, setAllM_cons, r_aug, kAug1_ok, kAug2_ok, r_fs, kFS1_ok, kFS2_ok, nxO_some, r_sl1, kSL1_ok, kSL2_ok, kSL3_ok, r_fnB, kFn_nx, kFn_rt, kFn_xc, r_lc, kLc_ok, r_yes, r_tgtp, kTg_ok, r_items, r_itemsT, kItems_ok, r_self, kSelf_ok, kSelf_no, ne_eq, reduceCtorEq, not_false_eq_true, r_isiR, kIsi_ok, r_ty, kTy_l, r_getF, kGetF_ok, kLk_ok, lk_yes, r_setF, r_itLl, kItL_ok, r_isL, kIsL_ok, r_lApp, kApp_ok, r_getI, kGetI_ok, r_getIT, r_setI, kSetI_ok, kStO_ok, r_while, r_bm0, kBM0_ok, r_lClear, kClear_ok, r_len, kLen_ok, len_tup, r_sl4, kSl4_ok, stepQ_nx, stepQ_ct, stepQ_bk, stepQ_rt, stepQ_xc,
  Res.bind_ok, Res.bind_exc, Res.bind_stuck,
  List.map_cons, List.map_nil, List.length_cons, List.length_nil, List.replicate_succ, List.replicate_zero, List.cons_append, List.nil_append, List.append_nil, List.set_cons_succ, List.set_cons_zero, List.getElem?_cons_succ, List.getElem?_cons_zero,
  Nat.reduceAdd, Nat.reduceSub, Nat.zero_add, Nat.sub_self, Bool.not_true, Bool.not_false, eq_self_iff_true, a0_2, eq_str, isTh]
  · simp -implicitDefEqProofs only [r_var, kVar_ok, r_c, r_op2, kOpA_ok, kOpA_exc, kOpB_ok, kOpB_exc, r_test, r_asB, r_and, r_or, r_not, kAnd_t, kAnd_f, kAnd_exc, kOr_t, kOr_f, kOr_exc, kNot_ok, kNot_exc, r_mand, r_mor, r_mnot, kMAnd_t, kMAnd_f, kMOr_t, kMOr_f, kMNot_ok, r_ife, kIfE_t, kIfE_f, kIfE_exc,
  r_anil, r_acons, kArg_ok, kArg_exc, kArgs_ok, kArgs_exc, r_tup, r_lst, r_fld, r_call, kCall_ok, kCall_exc, r_call0, noX_ok, r_meth, kM1_ok, kM1_exc, kM2_ok, kM2_stuck, kM3_ok, kM3_exc, r_meth0, kN1_ok, kN1_exc, kN2_ok, kN2_stuck, r_make, kMake_ok, mkEnd_ok, r_cb, r_isi, r_bm, kBM1_ok, kBM2_ok, r_alt, kAlt_ok, kAlt_exc, kAlt_stuck,
  r_sl, kSl1_ok, kSl2_ok, kSl3_ok, r_ptN, r_ptS, optI_ok, r_nil, r_seq, kSeq_nx, kSeq_rt, kSeq_xc, kSeq_bk, kSeq_ct, r_clr, kClr_nx, kClr_rt, kClr_xc, kClr_bk, kClr_ct, clr_nil, clr_cons, r_set, kSet_ok, kSet_exc, r_expr, kExpr_ok, kExpr_exc, r_ret, kRet_ok, kRet_exc, r_retN, r_if, kSIf_t, kSIf_f, kSIf_exc, r_brk, r_cont, r_for, kFor_ok,
  kItA_ok, kIt_some, r_itL, r_itT, r_itS, r_itR1, r_itR2, r_itEn, r_asg, kAsg_ok, sTgO_some, tgM_nm, setAllM_nil, setAllM_cons, r_aug, kAug1_ok, kAug2_ok, r_fs, kFS1_ok, kFS2_ok, nxO_some, r_sl1, kSL1_ok, kSL2_ok, kSL3_ok, r_fnB, kFn_nx, kFn_rt, kFn_xc, r_lc, kLc_ok, r_yes, r_tgtp, kTg_ok, r_items, r_itemsT, kItems_ok, r_self, kSelf_ok, kSelf_no, ne_eq, reduceCtorEq, not_false_eq_true, r_isiR, kIsi_ok, r_ty, kTy_l, r_getF, kGetF_ok, kLk_ok, lk_yes, r_setF, r_itLl, kItL_ok, r_isL, kIsL_ok, r_lApp, kApp_ok, r_getI, kGetI_ok, r_getIT, r_setI, kSetI_ok, kStO_ok, r_while, r_bm0, kBM0_ok, r_lClear, kClear_ok, r_len, kLen_ok, len_tup, r_sl4, kSl4_ok, stepQ_nx, stepQ_ct, stepQ_bk, stepQ_rt, stepQ_xc,
  Res.bind_ok, Res.bind_exc, Res.bind_stuck,
  List.map_cons, List.map_nil, List.length_cons, List.length_nil, List.replicate_succ, List.replicate_zero, List.cons_append, List.nil_append, List.append_nil, List.set_cons_succ, List.set_cons_zero, List.getElem?_cons_succ, List.getElem?_cons_zero,
  Nat.reduceAdd, Nat.reduceSub, Nat.zero_add, Nat.sub_self, Bool.not_true, Bool.not_false, eq_self_iff_true, a0_2, eq_str, isTh]
theorem idx_spec {x : D} (h : isField x) (ht : isTh x = true) (S : Sto) : getI x (.int 1) S = .ok (idx x) S ∧ okf (idx x) := by
  rcases h with rfl | ⟨i, rfl⟩ | ⟨i, rfl⟩
  · simp only [isTh, th_n] at ht; cases ht
  · simp only [isTh, th_m] at ht; cases ht
  · exact ⟨by rw [r_getIT, a1_2]; rfl, okf_int i⟩
theorem holds_okfs {fs : List D} (h : ∀ x ∈ fs, isField x) : okfs (holdsOf fs) := by
  intro y hy
  obtain ⟨x, hx, rfl⟩ := List.mem_map.mp hy
  exact (idx_spec (h x (List.mem_filter.mp hx).1) (List.mem_filter.mp hx).2 []).2
/-- the list of the held ones, however it is asked -/
theorem lc_holds {S : Sto} {a i1 : Nat} {fz : Bool} {fs : List D} {tt : MTs} {ρ : Rho} (ha : S[a]? = some (.lst fz fs)) (hf : ∀ x ∈ fs, isField x) (hl : fs.length ≤ 100000) (hi : i1 < ρ.length)
    (htt : ∀ x, isField x → ∀ T, tt (ρ.set i1 (some x)) T = .ok (isTh x) T) : lcGo ⟨lstGet a, fs.length + 1⟩ (.nm i1) tt (mOp2 getI (mVar i1) (mC (.int 1))) ρ S.length (fs.length + 1) 0 (S ++ [.lst false []]) = .ok (.loc S.length) (S ++ [.lst false (holdsOf fs)]) := by
  refine lc_pure fs isTh idx (fun i acc => lstGet_ok (get_app ha) i) ?_ hl (by omega)
  intro x hx acc
  refine ⟨_, rfl, htt x (hf x hx) _, fun ht => ?_⟩
  have hv : (ρ.set i1 (some x))[i1]? = some (some x) := by rw [List.getElem?_set_self hi]
  simp -implicitDefEqProofs only [r_var, kVar_ok, r_c, r_op2, kOpA_ok, kOpA_exc, kOpB_ok, kOpB_exc, r_test, r_asB, r_and, r_or, r_not, kAnd_t, kAnd_f, kAnd_exc, kOr_t, kOr_f, kOr_exc, kNot_ok, kNot_exc, r_mand, r_mor, r_mnot, kMAnd_t, kMAnd_f, kMOr_t, kMOr_f, kMNot_ok, r_ife, kIfE_t, kIfE_f, kIfE_exc,
  r_anil, r_acons, kArg_ok, kArg_exc, kArgs_ok, kArgs_exc, r_tup, r_lst, r_fld, r_call, kCall_ok, kCall_exc, r_call0, noX_ok, r_meth, kM1_ok, kM1_exc, kM2_ok, kM2_stuck, kM3_ok, kM3_exc, r_meth0, kN1_ok, kN1_exc, kN2_ok, kN2_stuck, r_make, kMake_ok, mkEnd_ok, r_cb, r_isi, r_bm, kBM1_ok, kBM2_ok, r_alt, kAlt_ok, kAlt_exc, kAlt_stuck,
  r_sl, kSl1_ok, kSl2_ok, kSl3_ok, r_ptN, r_ptS, optI_ok, r_nil, r_seq, kSeq_nx, kSeq_rt, kSeq_xc, kSeq_bk, kSeq_ct, r_clr, kClr_nx, kClr_rt, kClr_xc, kClr_bk, kClr_ct, clr_nil, clr_cons, r_set, kSet_ok, kSet_exc, r_expr, kExpr_ok, kExpr_exc, r_ret, kRet_ok, kRet_exc, r_retN, r_if, kSIf_t, kSIf_f, kSIf_exc, r_brk, r_cont, r_for, kFor_ok,
  kItA_ok, kIt_some, r_itL, r_itT, r_itS, r_itR1, r_itR2, r_itEn, r_asg, kAsg_ok, sTgO_some, tgM_nm, setAllM_nil, setAllM_cons, r_aug, kAug1_ok, kAug2_ok, r_fs, kFS1_ok, kFS2_ok, nxO_some, r_sl1, kSL1_ok, kSL2_ok, kSL3_ok, r_fnB, kFn_nx, kFn_rt, kFn_xc, r_lc, kLc_ok, r_yes, r_tgtp, kTg_ok, r_items, r_itemsT, kItems_ok, r_self, kSelf_ok, kSelf_no, ne_eq, reduceCtorEq, not_false_eq_true, r_isiR, kIsi_ok, r_ty, kTy_l, r_getF, kGetF_ok, kLk_ok, lk_yes, r_setF, r_itLl, kItL_ok, r_isL, kIsL_ok, r_lApp, kApp_ok, r_getI, kGetI_ok, r_getIT, r_setI, kSetI_ok, kStO_ok, r_while, r_bm0, kBM0_ok, r_lClear, kClear_ok, r_len, kLen_ok, len_tup, r_sl4, kSl4_ok, stepQ_nx, stepQ_ct, stepQ_bk, stepQ_rt, stepQ_xc,
  Res.bind_ok, Res.bind_exc, Res.bind_stuck,
  List.map_cons, List.map_nil, List.length_cons, List.length_nil, List.replicate_succ, List.replicate_zero, List.cons_append, List.nil_append, List.append_nil, List.set_cons_succ, List.set_cons_zero, List.getElem?_cons_succ, List.getElem?_cons_zero,
  Nat.reduceAdd, Nat.reduceSub, Nat.zero_add, Nat.sub_self, Bool.not_true, Bool.not_false, eq_self_iff_true, hv, (idx_spec (hf x hx) ht _).1]
/-! ### things -/
theorem rowLk {c : Cl} {l a : Nat} {r : List (Fl × D)} {S : Sto} (h : S[l]? = some (.ins c ((.row, .loc a) :: r))) : getF .row (.loc l) S = .ok (.loc a) S := by
  simp -implicitDefEqProofs only [r_var, kVar_ok, r_c, r_op2, kOpA_ok, kOpA_exc, kOpB_ok, kOpB_exc, r_test, r_asB, r_and, r_or, r_not, kAnd_t, kAnd_f, kAnd_exc, kOr_t, kOr_f, kOr_exc, kNot_ok, kNot_exc, r_mand, r_mor, r_mnot, kMAnd_t, kMAnd_f, kMOr_t, kMOr_f, kMNot_ok, r_ife, kIfE_t, kIfE_f, kIfE_exc,
  r_anil, r_acons, kArg_ok, kArg_exc, kArgs_ok, kArgs_exc, r_tup, r_lst, r_fld, r_call, kCall_ok, kCall_exc, r_call0, noX_ok, r_meth, kM1_ok, kM1_exc, kM2_ok, kM2_stuck, kM3_ok, kM3_exc, r_meth0, kN1_ok, kN1_exc, kN2_ok, kN2_stuck, r_make, kMake_ok, mkEnd_ok, r_cb, r_isi, r_bm, kBM1_ok, kBM2_ok, r_alt, kAlt_ok, kAlt_exc, kAlt_stuck,
  r_sl, kSl1_ok, kSl2_ok, kSl3_ok, r_ptN, r_ptS, optI_ok, r_nil, r_seq, kSeq_nx, kSeq_rt, kSeq_xc, kSeq_bk, kSeq_ct, r_clr, kClr_nx, kClr_rt, kClr_xc, kClr_bk, kClr_ct, clr_nil, clr_cons, r_set, kSet_ok, kSet_exc, r_expr, kExpr_ok, kExpr_exc, r_ret, kRet_ok, kRet_exc, r_retN, r_if, kSIf_t, kSIf_f, kSIf_exc, r_brk, r_cont, r_for, kFor_ok,
  kItA_ok, kIt_some, r_itL, r_itT, r_itS, r_itR1, r_itR2, r_itEn, r_asg, kAsg_ok, sTgO_some, tgM_nm, setAllM_nil, setAllM_cons, r_aug, kAug1_ok, kAug2_ok, r_fs, kFS1_ok, kFS2_ok, nxO_some, r_sl1, kSL1_ok, kSL2_ok, kSL3_ok, r_fnB, kFn_nx, kFn_rt, kFn_xc, r_lc, kLc_ok, r_yes, r_tgtp, kTg_ok, r_items, r_itemsT, kItems_ok, r_self, kSelf_ok, kSelf_no, ne_eq, reduceCtorEq, not_false_eq_true, r_isiR, kIsi_ok, r_ty, kTy_l, r_getF, kGetF_ok, kLk_ok, lk_yes, r_setF, r_itLl, kItL_ok, r_isL, kIsL_ok, r_lApp, kApp_ok, r_getI, kGetI_ok, r_getIT, r_setI, kSetI_ok, kStO_ok, r_while, r_bm0, kBM0_ok, r_lClear, kClear_ok, r_len, kLen_ok, len_tup, r_sl4, kSl4_ok, stepQ_nx, stepQ_ct, stepQ_bk, stepQ_rt, stepQ_xc,
  Res.bind_ok, Res.bind_exc, Res.bind_stuck,
  List.map_cons, List.map_nil, List.length_cons, List.length_nil, List.replicate_succ, List.replicate_zero, List.cons_append, List.nil_append, List.append_nil, List.set_cons_succ, List.set_cons_zero, List.getElem?_cons_succ, List.getElem?_cons_zero,
  Nat.reduceAdd, Nat.reduceSub, Nat.zero_add, Nat.sub_self, Bool.not_true, Bool.not_false, eq_self_iff_true, h]
theorem fields_spec {S : Sto} {c : Cl} {l a : Nat} {fz : Bool} {r : List (Fl × D)} {fs : List D} (h : S[l]? = some (.ins c ((.row, .loc a) :: r))) (ha : S[a]? = some (.lst fz fs)) : f_Thing_fields [.loc l] S = .ok (.loc S.length) (S ++ [.lst false fs]) := by
  unfold f_Thing_fields b_Thing_fields
  simp -implicitDefEqProofs only [r_var, kVar_ok, r_c, r_op2, kOpA_ok, kOpA_exc, kOpB_ok, kOpB_exc, r_test, r_asB, r_and, r_or, r_not, kAnd_t, kAnd_f, kAnd_exc, kOr_t, kOr_f, kOr_exc, kNot_ok, kNot_exc, r_mand, r_mor, r_mnot, kMAnd_t, kMAnd_f, kMOr_t, kMOr_f, kMNot_ok, r_ife, kIfE_t, kIfE_f, kIfE_exc,
  r_anil, r_acons, kArg_ok, kArg_exc, kArgs_ok, kArgs_exc, r_tup, r_lst, r_fld, r_call, kCall_ok, kCall_exc, r_call0, noX_ok, r_meth, kM1_ok, kM1_exc, kM2_ok, kM2_stuck, kM3_ok, kM3_exc, r_meth0, kN1_ok, kN1_exc, kN2_ok, kN2_stuck, r_make, kMake_ok, mkEnd_ok, r_cb, r_isi, r_bm, kBM1_ok, kBM2_ok, r_alt, kAlt_ok, kAlt_exc, kAlt_stuck,
  r_sl, kSl1_ok, kSl2_ok, kSl3_ok, r_ptN, r_ptS, optI_ok, r_nil, r_seq, kSeq_nx, kSeq_rt, kSeq_xc, kSeq_bk, kSeq_ct, r_clr, kClr_nx, kClr_rt, kClr_xc, kClr_bk, kClr_ct, clr_nil, clr_cons, r_set, kSet_ok, kSet_exc, r_expr, kExpr_ok, kExpr_exc, r_ret, kRet_ok, kRet_exc, r_retN, r_if, kSIf_t, kSIf_f, kSIf_exc, r_brk, r_cont, r_for, kFor_ok,
  kItA_ok, kIt_some, r_itL, r_itT, r_itS, r_itR1, r_itR2, r_itEn, r_asg, kAsg_ok, sTgO_some, tgM_nm, setAllM_nil, setAllM_cons, r_aug, kAug1_ok, kAug2_ok, r_fs, kFS1_ok, kFS2_ok, nxO_some, r_sl1, kSL1_ok, kSL2_ok, kSL3_ok, r_fnB, kFn_nx, kFn_rt, kFn_xc, r_lc, kLc_ok, r_yes, r_tgtp, kTg_ok, r_items, r_itemsT, kItems_ok, r_self, kSelf_ok, kSelf_no, ne_eq, reduceCtorEq, not_false_eq_true, r_isiR, kIsi_ok, r_ty, kTy_l, r_getF, kGetF_ok, kLk_ok, lk_yes, r_setF, r_itLl, kItL_ok, r_isL, kIsL_ok, r_lApp, kApp_ok, r_getI, kGetI_ok, r_getIT, r_setI, kSetI_ok, kStO_ok, r_while, r_bm0, kBM0_ok, r_lClear, kClear_ok, r_len, kLen_ok, len_tup, r_sl4, kSl4_ok, stepQ_nx, stepQ_ct, stepQ_bk, stepQ_rt, stepQ_xc,
  Res.bind_ok, Res.bind_exc, Res.bind_stuck,
  List.map_cons, List.map_nil, List.length_cons, List.length_nil, List.replicate_succ, List.replicate_zero, List.cons_append, List.nil_append, List.append_nil, List.set_cons_succ, List.set_cons_zero, List.getElem?_cons_succ, List.getElem?_cons_zero,
  Nat.reduceAdd, Nat.reduceSub, Nat.zero_add, Nat.sub_self, Bool.not_true, Bool.not_false, eq_self_iff_true, h, cList_ok ha]
theorem pholds_spec {S : Sto} {c : Cl} {l a : Nat} {fz : Bool} {r : List (Fl × D)} {fs : List D} (h : S[l]? = some (.ins c ((.row, .loc a) :: r))) (ha : S[a]? = some (.lst fz fs)) (hf : ∀ x ∈ fs, isField x) (hl : fs.length ≤ 100000) : f_Plain_holds [.loc l] S = .ok (.loc S.length) (S ++ [.lst false (holdsOf fs)]) := by
  unfold f_Plain_holds b_Plain_holds
  have q := lc_holds (i1 := 1) (ρ := [some (.loc l), none]) (tt := mTest (mCall 1 f_is_thing (aCons (mVar 1) aNil))) ha hf hl (by show 1 < 2; decide) (by
    intro x hx T
    simp -implicitDefEqProofs only [r_var, kVar_ok, r_c, r_op2, kOpA_ok, kOpA_exc, kOpB_ok, kOpB_exc, r_test, r_asB, r_and, r_or, r_not, kAnd_t, kAnd_f, kAnd_exc, kOr_t, kOr_f, kOr_exc, kNot_ok, kNot_exc, r_mand, r_mor, r_mnot, kMAnd_t, kMAnd_f, kMOr_t, kMOr_f, kMNot_ok, r_ife, kIfE_t, kIfE_f, kIfE_exc,
  r_anil, r_acons, kArg_ok, kArg_exc, kArgs_ok, kArgs_exc, r_tup, r_lst, r_fld, r_call, kCall_ok, kCall_exc, r_call0, noX_ok, r_meth, kM1_ok, kM1_exc, kM2_ok, kM2_stuck, kM3_ok, kM3_exc, r_meth0, kN1_ok, kN1_exc, kN2_ok, kN2_stuck, r_make, kMake_ok, mkEnd_ok, r_cb, r_isi, r_bm, kBM1_ok, kBM2_ok, r_alt, kAlt_ok, kAlt_exc, kAlt_stuck,
  r_sl, kSl1_ok, kSl2_ok, kSl3_ok, r_ptN, r_ptS, optI_ok, r_nil, r_seq, kSeq_nx, kSeq_rt, kSeq_xc, kSeq_bk, kSeq_ct, r_clr, kClr_nx, kClr_rt, kClr_xc, kClr_bk, kClr_ct, clr_nil, clr_cons, r_set, kSet_ok, kSet_exc, r_expr, kExpr_ok, kExpr_exc, r_ret, kRet_ok, kRet_exc, r_retN, r_if, kSIf_t, kSIf_f, kSIf_exc, r_brk, r_cont, r_for, kFor_ok,
  kItA_ok, kIt_some, r_itL, r_itT, r_itS, r_itR1, r_itR2, r_itEn, r_asg, kAsg_ok, sTgO_some, tgM_nm, setAllM_nil, setAllM_cons, r_aug, kAug1_ok, kAug2_ok, r_fs, kFS1_ok, kFS2_ok, nxO_some, r_sl1, kSL1_ok, kSL2_ok, kSL3_ok, r_fnB, kFn_nx, kFn_rt, kFn_xc, r_lc, kLc_ok, r_yes, r_tgtp, kTg_ok, r_items, r_itemsT, kItems_ok, r_self, kSelf_ok, kSelf_no, ne_eq, reduceCtorEq, not_false_eq_true, r_isiR, kIsi_ok, r_ty, kTy_l, r_getF, kGetF_ok, kLk_ok, lk_yes, r_setF, r_itLl, kItL_ok, r_isL, kIsL_ok, r_lApp, kApp_ok, r_getI, kGetI_ok, r_getIT, r_setI, kSetI_ok, kStO_ok, r_while, r_bm0, kBM0_ok, r_lClear, kClear_ok, r_len, kLen_ok, len_tup, r_sl4, kSl4_ok, stepQ_nx, stepQ_ct, stepQ_bk, stepQ_rt, stepQ_xc,
  Res.bind_ok, Res.bind_exc, Res.bind_stuck,
  List.map_cons, List.map_nil, List.length_cons, List.length_nil, List.replicate_succ, List.replicate_zero, List.cons_append, List.nil_append, List.append_nil, List.set_cons_succ, List.set_cons_zero, List.getElem?_cons_succ, List.getElem?_cons_zero,
  Nat.reduceAdd, Nat.reduceSub, Nat.zero_add, Nat.sub_self, Bool.not_true, Bool.not_false, eq_self_iff_true, is_thing_spec hx])
  simp -implicitDefEqProofs only [r_var, kVar_ok, r_c, r_op2, kOpA_ok, kOpA_exc, kOpB_ok, kOpB_exc, r_test, r_asB, r_and, r_or, r_not, kAnd_t, kAnd_f, kAnd_exc, kOr_t, kOr_f, kOr_exc, kNot_ok, kNot_exc, r_mand, r_mor, r_mnot, kMAnd_t, kMAnd_f, kMOr_t, kMOr_f, kMNot_ok, r_ife, kIfE_t, kIfE_f, kIfE_exc,
  r_anil, r_acons, kArg_ok, kArg_exc, kArgs_ok, kArgs_exc, r_tup, r_lst, r_fld, r_call, kCall_ok, kCall_exc, r_call0, noX_ok, r_meth, kM1_ok, kM1_exc, kM2_ok, kM2_stuck, kM3_ok, kM3_exc, r_meth0, kN1_ok, kN1_exc, kN2_ok, kN2_stuck, r_make, kMake_ok, mkEnd_ok, r_cb, r_isi, r_bm, kBM1_ok, kBM2_ok, r_alt, kAlt_ok, kAlt_exc, kAlt_stuck,
  r_sl, kSl1_ok, kSl2_ok, kSl3_ok, r_ptN, r_ptS, optI_ok, r_nil, r_seq, kSeq_nx, kSeq_rt, kSeq_xc, kSeq_bk, kSeq_ct, r_clr, kClr_nx, kClr_rt, kClr_xc, kClr_bk, kClr_ct, clr_nil, clr_cons, r_set, kSet_ok, kSet_exc, r_expr, kExpr_ok, kExpr_exc, r_ret, kRet_ok, kRet_exc, r_retN, r_if, kSIf_t, kSIf_f, kSIf_exc, r_brk, r_cont, r_for, kFor_ok,
  kItA_ok, kIt_some, r_itL, r_itT, r_itS, r_itR1, r_itR2, r_itEn, r_asg, kAsg_ok, sTgO_some, tgM_nm, setAllM_nil, setAllM_cons, r_aug, kAug1_ok, kAug2_ok, r_fs, kFS1_ok, kFS2_ok, nxO_some, r_sl1, kSL1_ok, kSL2_ok, kSL3_ok, r_fnB, kFn_nx, kFn_rt, kFn_xc, r_lc, kLc_ok, r_yes, r_tgtp, kTg_ok, r_items, r_itemsT, kItems_ok, r_self, kSelf_ok, kSelf_no, ne_eq, reduceCtorEq, not_false_eq_true, r_isiR, kIsi_ok, r_ty, kTy_l, r_getF, kGetF_ok, kLk_ok, lk_yes, r_setF, r_itLl, kItL_ok, r_isL, kIsL_ok, r_lApp, kApp_ok, r_getI, kGetI_ok, r_getIT, r_setI, kSetI_ok, kStO_ok, r_while, r_bm0, kBM0_ok, r_lClear, kClear_ok, r_len, kLen_ok, len_tup, r_sl4, kSl4_ok, stepQ_nx, stepQ_ct, stepQ_bk, stepQ_rt, stepQ_xc,
  Res.bind_ok, Res.bind_exc, Res.bind_stuck,
  List.map_cons, List.map_nil, List.length_cons, List.length_nil, List.replicate_succ, List.replicate_zero, List.cons_append, List.nil_append, List.append_nil, List.set_cons_succ, List.set_cons_zero, List.getElem?_cons_succ, List.getElem?_cons_zero,
  Nat.reduceAdd, Nat.reduceSub, Nat.zero_add, Nat.sub_self, Bool.not_true, Bool.not_false, eq_self_iff_true, h, ha, q]
theorem th_holds (l : Nat) (S : Sto) : f_Thing_holds [.loc l] S = .ok (.loc S.length) (S ++ [.lst false []]) := by
  unfold f_Thing_holds b_Thing_holds; simp -implicitDefEqProofs only [r_var, kVar_ok, r_c, r_op2, kOpA_ok, kOpA_exc, kOpB_ok, kOpB_exc, r_test, r_asB, r_and, r_or, r_not, kAnd_t, kAnd_f, kAnd_exc, kOr_t, kOr_f, kOr_exc, kNot_ok, kNot_exc, r_mand, r_mor, r_mnot, kMAnd_t, kMAnd_f, kMOr_t, kMOr_f, kMNot_ok, r_ife, kIfE_t, kIfE_f, kIfE_exc,
  r_anil, r_acons, kArg_ok, kArg_exc, kArgs_ok, kArgs_exc, r_tup, r_lst, r_fld, r_call, kCall_ok, kCall_exc, r_call0, noX_ok, r_meth, kM1_ok, kM1_exc, kM2_ok, kM2_stuck, kM3_ok, kM3_exc, r_meth0, kN1_ok, kN1_exc, kN2_ok, kN2_stuck, r_make, kMake_ok, mkEnd_ok, r_cb, r_isi, r_bm, kBM1_ok, kBM2_ok, r_alt, kAlt_ok, kAlt_exc, kAlt_stuck,
  r_sl, kSl1_ok, kSl2_ok, kSl3_ok, r_ptN, r_ptS, optI_ok, r_nil, r_seq, kSeq_nx, kSeq_rt, kSeq_xc, kSeq_bk, kSeq_ct, r_clr, kClr_nx, kClr_rt, kClr_xc, kClr_bk, kClr_ct, clr_nil, clr_cons, r_set, kSet_ok, kSet_exc, r_expr, kExpr_ok, kExpr_exc, r_ret, kRet_ok, kRet_exc, r_retN, r_if, kSIf_t, kSIf_f, kSIf_exc, r_brk, r_cont, r_for, kFor_ok,
  kItA_ok, kIt_some, r_itL, r_itT, r_itS, r_itR1, r_itR2, r_itEn, r_asg, kAsg_ok, sTgO_some, tgM_nm, setAllM_nil, setAllM_cons, r_aug, kAug1_ok, kAug2_ok, r_fs, kFS1_ok, kFS2_ok, nxO_some, r_sl1, kSL1_ok, kSL2_ok, kSL3_ok, r_fnB, kFn_nx, kFn_rt, kFn_xc, r_lc, kLc_ok, r_yes, r_tgtp, kTg_ok, r_items, r_itemsT, kItems_ok, r_self, kSelf_ok, kSelf_no, ne_eq, reduceCtorEq, not_false_eq_true, r_isiR, kIsi_ok, r_ty, kTy_l, r_getF, kGetF_ok, kLk_ok, lk_yes, r_setF, r_itLl, kItL_ok, r_isL, kIsL_ok, r_lApp, kApp_ok, r_getI, kGetI_ok, r_getIT, r_setI, kSetI_ok, kStO_ok, r_while, r_bm0, kBM0_ok, r_lClear, kClear_ok, r_len, kLen_ok, len_tup, r_sl4, kSl4_ok, stepQ_nx, stepQ_ct, stepQ_bk, stepQ_rt, stepQ_xc,
  Res.bind_ok, Res.bind_exc, Res.bind_stuck,
  List.map_cons, List.map_nil, List.length_cons, List.length_nil, List.replicate_succ, List.replicate_zero, List.cons_append, List.nil_append, List.append_nil, List.set_cons_succ, List.set_cons_zero, List.getElem?_cons_succ, List.getElem?_cons_zero,
  Nat.reduceAdd, Nat.reduceSub, Nat.zero_add, Nat.sub_self, Bool.not_true, Bool.not_false, eq_self_iff_true, lstD_ok, Nat.zero_le]
theorem th_waits (l : Nat) (S : Sto) : f_Thing_waits [.loc l] S = .ok (.loc S.length) (S ++ [.lst false []]) := by
  unfold f_Thing_waits b_Thing_waits; simp -implicitDefEqProofs only [r_var, kVar_ok, r_c, r_op2, kOpA_ok, kOpA_exc, kOpB_ok, kOpB_exc, r_test, r_asB, r_and, r_or, r_not, kAnd_t, kAnd_f, kAnd_exc, kOr_t, kOr_f, kOr_exc, kNot_ok, kNot_exc, r_mand, r_mor, r_mnot, kMAnd_t, kMAnd_f, kMOr_t, kMOr_f, kMNot_ok, r_ife, kIfE_t, kIfE_f, kIfE_exc,
  r_anil, r_acons, kArg_ok, kArg_exc, kArgs_ok, kArgs_exc, r_tup, r_lst, r_fld, r_call, kCall_ok, kCall_exc, r_call0, noX_ok, r_meth, kM1_ok, kM1_exc, kM2_ok, kM2_stuck, kM3_ok, kM3_exc, r_meth0, kN1_ok, kN1_exc, kN2_ok, kN2_stuck, r_make, kMake_ok, mkEnd_ok, r_cb, r_isi, r_bm, kBM1_ok, kBM2_ok, r_alt, kAlt_ok, kAlt_exc, kAlt_stuck,
  r_sl, kSl1_ok, kSl2_ok, kSl3_ok, r_ptN, r_ptS, optI_ok, r_nil, r_seq, kSeq_nx, kSeq_rt, kSeq_xc, kSeq_bk, kSeq_ct, r_clr, kClr_nx, kClr_rt, kClr_xc, kClr_bk, kClr_ct, clr_nil, clr_cons, r_set, kSet_ok, kSet_exc, r_expr, kExpr_ok, kExpr_exc, r_ret, kRet_ok, kRet_exc, r_retN, r_if, kSIf_t, kSIf_f, kSIf_exc, r_brk, r_cont, r_for, kFor_ok,
  kItA_ok, kIt_some, r_itL, r_itT, r_itS, r_itR1, r_itR2, r_itEn, r_asg, kAsg_ok, sTgO_some, tgM_nm, setAllM_nil, setAllM_cons, r_aug, kAug1_ok, kAug2_ok, r_fs, kFS1_ok, kFS2_ok, nxO_some, r_sl1, kSL1_ok, kSL2_ok, kSL3_ok, r_fnB, kFn_nx, kFn_rt, kFn_xc, r_lc, kLc_ok, r_yes, r_tgtp, kTg_ok, r_items, r_itemsT, kItems_ok, r_self, kSelf_ok, kSelf_no, ne_eq, reduceCtorEq, not_false_eq_true, r_isiR, kIsi_ok, r_ty, kTy_l, r_getF, kGetF_ok, kLk_ok, lk_yes, r_setF, r_itLl, kItL_ok, r_isL, kIsL_ok, r_lApp, kApp_ok, r_getI, kGetI_ok, r_getIT, r_setI, kSetI_ok, kStO_ok, r_while, r_bm0, kBM0_ok, r_lClear, kClear_ok, r_len, kLen_ok, len_tup, r_sl4, kSl4_ok, stepQ_nx, stepQ_ct, stepQ_bk, stepQ_rt, stepQ_xc,
  Res.bind_ok, Res.bind_exc, Res.bind_stuck,
  List.map_cons, List.map_nil, List.length_cons, List.length_nil, List.replicate_succ, List.replicate_zero, List.cons_append, List.nil_append, List.append_nil, List.set_cons_succ, List.set_cons_zero, List.getElem?_cons_succ, List.getElem?_cons_zero,
  Nat.reduceAdd, Nat.reduceSub, Nat.zero_add, Nat.sub_self, Bool.not_true, Bool.not_false, eq_self_iff_true, lstD_ok, Nat.zero_le]
theorem th_words (l : Nat) (S : Sto) : f_Thing_words [.loc l] S = .ok .non S := by
  unfold f_Thing_words b_Thing_words; simp -implicitDefEqProofs only [r_var, kVar_ok, r_c, r_op2, kOpA_ok, kOpA_exc, kOpB_ok, kOpB_exc, r_test, r_asB, r_and, r_or, r_not, kAnd_t, kAnd_f, kAnd_exc, kOr_t, kOr_f, kOr_exc, kNot_ok, kNot_exc, r_mand, r_mor, r_mnot, kMAnd_t, kMAnd_f, kMOr_t, kMOr_f, kMNot_ok, r_ife, kIfE_t, kIfE_f, kIfE_exc,
  r_anil, r_acons, kArg_ok, kArg_exc, kArgs_ok, kArgs_exc, r_tup, r_lst, r_fld, r_call, kCall_ok, kCall_exc, r_call0, noX_ok, r_meth, kM1_ok, kM1_exc, kM2_ok, kM2_stuck, kM3_ok, kM3_exc, r_meth0, kN1_ok, kN1_exc, kN2_ok, kN2_stuck, r_make, kMake_ok, mkEnd_ok, r_cb, r_isi, r_bm, kBM1_ok, kBM2_ok, r_alt, kAlt_ok, kAlt_exc, kAlt_stuck,
  r_sl, kSl1_ok, kSl2_ok, kSl3_ok, r_ptN, r_ptS, optI_ok, r_nil, r_seq, kSeq_nx, kSeq_rt, kSeq_xc, kSeq_bk, kSeq_ct, r_clr, kClr_nx, kClr_rt, kClr_xc, kClr_bk, kClr_ct, clr_nil, clr_cons, r_set, kSet_ok, kSet_exc, r_expr, kExpr_ok, kExpr_exc, r_ret, kRet_ok, kRet_exc, r_retN, r_if, kSIf_t, kSIf_f, kSIf_exc, r_brk, r_cont, r_for, kFor_ok,
  kItA_ok, kIt_some, r_itL, r_itT, r_itS, r_itR1, r_itR2, r_itEn, r_asg, kAsg_ok, sTgO_some, tgM_nm, setAllM_nil, setAllM_cons, r_aug, kAug1_ok, kAug2_ok, r_fs, kFS1_ok, kFS2_ok, nxO_some, r_sl1, kSL1_ok, kSL2_ok, kSL3_ok, r_fnB, kFn_nx, kFn_rt, kFn_xc, r_lc, kLc_ok, r_yes, r_tgtp, kTg_ok, r_items, r_itemsT, kItems_ok, r_self, kSelf_ok, kSelf_no, ne_eq, reduceCtorEq, not_false_eq_true, r_isiR, kIsi_ok, r_ty, kTy_l, r_getF, kGetF_ok, kLk_ok, lk_yes, r_setF, r_itLl, kItL_ok, r_isL, kIsL_ok, r_lApp, kApp_ok, r_getI, kGetI_ok, r_getIT, r_setI, kSetI_ok, kStO_ok, r_while, r_bm0, kBM0_ok, r_lClear, kClear_ok, r_len, kLen_ok, len_tup, r_sl4, kSl4_ok, stepQ_nx, stepQ_ct, stepQ_bk, stepQ_rt, stepQ_xc,
  Res.bind_ok, Res.bind_exc, Res.bind_stuck,
  List.map_cons, List.map_nil, List.length_cons, List.length_nil, List.replicate_succ, List.replicate_zero, List.cons_append, List.nil_append, List.append_nil, List.set_cons_succ, List.set_cons_zero, List.getElem?_cons_succ, List.getElem?_cons_zero,
  Nat.reduceAdd, Nat.reduceSub, Nat.zero_add, Nat.sub_self, Bool.not_true, Bool.not_false, eq_self_iff_true]
theorem pl_words {S : Sto} {l a : Nat} {w : D} (h : S[l]? = some (.ins .Plain [(.row, .loc a), (.last_words, w)])) : f_Plain_words [.loc l] S = .ok w S := by
  have f1 : (Fl.last_words == Fl.row) = false := by decide
  unfold f_Plain_words b_Plain_words; simp -implicitDefEqProofs only [r_var, kVar_ok, r_c, r_op2, kOpA_ok, kOpA_exc, kOpB_ok, kOpB_exc, r_test, r_asB, r_and, r_or, r_not, kAnd_t, kAnd_f, kAnd_exc, kOr_t, kOr_f, kOr_exc, kNot_ok, kNot_exc, r_mand, r_mor, r_mnot, kMAnd_t, kMAnd_f, kMOr_t, kMOr_f, kMNot_ok, r_ife, kIfE_t, kIfE_f, kIfE_exc,
  r_anil, r_acons, kArg_ok, kArg_exc, kArgs_ok, kArgs_exc, r_tup, r_lst, r_fld, r_call, kCall_ok, kCall_exc, r_call0, noX_ok, r_meth, kM1_ok, kM1_exc, kM2_ok, kM2_stuck, kM3_ok, kM3_exc, r_meth0, kN1_ok, kN1_exc, kN2_ok, kN2_stuck, r_make, kMake_ok, mkEnd_ok, r_cb, r_isi, r_bm, kBM1_ok, kBM2_ok, r_alt, kAlt_ok, kAlt_exc, kAlt_stuck,
  r_sl, kSl1_ok, kSl2_ok, kSl3_ok, r_ptN, r_ptS, optI_ok, r_nil, r_seq, kSeq_nx, kSeq_rt, kSeq_xc, kSeq_bk, kSeq_ct, r_clr, kClr_nx, kClr_rt, kClr_xc, kClr_bk, kClr_ct, clr_nil, clr_cons, r_set, kSet_ok, kSet_exc, r_expr, kExpr_ok, kExpr_exc, r_ret, kRet_ok, kRet_exc, r_retN, r_if, kSIf_t, kSIf_f, kSIf_exc, r_brk, r_cont, r_for, kFor_ok,
  kItA_ok, kIt_some, r_itL, r_itT, r_itS, r_itR1, r_itR2, r_itEn, r_asg, kAsg_ok, sTgO_some, tgM_nm, setAllM_nil, setAllM_cons, r_aug, kAug1_ok, kAug2_ok, r_fs, kFS1_ok, kFS2_ok, nxO_some, r_sl1, kSL1_ok, kSL2_ok, kSL3_ok, r_fnB, kFn_nx, kFn_rt, kFn_xc, r_lc, kLc_ok, r_yes, r_tgtp, kTg_ok, r_items, r_itemsT, kItems_ok, r_self, kSelf_ok, kSelf_no, ne_eq, reduceCtorEq, not_false_eq_true, r_isiR, kIsi_ok, r_ty, kTy_l, r_getF, kGetF_ok, kLk_ok, lk_yes, r_setF, r_itLl, kItL_ok, r_isL, kIsL_ok, r_lApp, kApp_ok, r_getI, kGetI_ok, r_getIT, r_setI, kSetI_ok, kStO_ok, r_while, r_bm0, kBM0_ok, r_lClear, kClear_ok, r_len, kLen_ok, len_tup, r_sl4, kSl4_ok, stepQ_nx, stepQ_ct, stepQ_bk, stepQ_rt, stepQ_xc,
  Res.bind_ok, Res.bind_exc, Res.bind_stuck,
  List.map_cons, List.map_nil, List.length_cons, List.length_nil, List.replicate_succ, List.replicate_zero, List.cons_append, List.nil_append, List.append_nil, List.set_cons_succ, List.set_cons_zero, List.getElem?_cons_succ, List.getElem?_cons_zero,
  Nat.reduceAdd, Nat.reduceSub, Nat.zero_add, Nat.sub_self, Bool.not_true, Bool.not_false, eq_self_iff_true, h, lk_no f1]
theorem so_pl (l : Nat) (S : Sto) : f_Plain_sort_of [.loc l] S = .ok (.str "plain") S := by
  unfold f_Plain_sort_of b_Plain_sort_of; simp -implicitDefEqProofs only [r_var, kVar_ok, r_c, r_op2, kOpA_ok, kOpA_exc, kOpB_ok, kOpB_exc, r_test, r_asB, r_and, r_or, r_not, kAnd_t, kAnd_f, kAnd_exc, kOr_t, kOr_f, kOr_exc, kNot_ok, kNot_exc, r_mand, r_mor, r_mnot, kMAnd_t, kMAnd_f, kMOr_t, kMOr_f, kMNot_ok, r_ife, kIfE_t, kIfE_f, kIfE_exc,
  r_anil, r_acons, kArg_ok, kArg_exc, kArgs_ok, kArgs_exc, r_tup, r_lst, r_fld, r_call, kCall_ok, kCall_exc, r_call0, noX_ok, r_meth, kM1_ok, kM1_exc, kM2_ok, kM2_stuck, kM3_ok, kM3_exc, r_meth0, kN1_ok, kN1_exc, kN2_ok, kN2_stuck, r_make, kMake_ok, mkEnd_ok, r_cb, r_isi, r_bm, kBM1_ok, kBM2_ok, r_alt, kAlt_ok, kAlt_exc, kAlt_stuck,
  r_sl, kSl1_ok, kSl2_ok, kSl3_ok, r_ptN, r_ptS, optI_ok, r_nil, r_seq, kSeq_nx, kSeq_rt, kSeq_xc, kSeq_bk, kSeq_ct, r_clr, kClr_nx, kClr_rt, kClr_xc, kClr_bk, kClr_ct, clr_nil, clr_cons, r_set, kSet_ok, kSet_exc, r_expr, kExpr_ok, kExpr_exc, r_ret, kRet_ok, kRet_exc, r_retN, r_if, kSIf_t, kSIf_f, kSIf_exc, r_brk, r_cont, r_for, kFor_ok,
  kItA_ok, kIt_some, r_itL, r_itT, r_itS, r_itR1, r_itR2, r_itEn, r_asg, kAsg_ok, sTgO_some, tgM_nm, setAllM_nil, setAllM_cons, r_aug, kAug1_ok, kAug2_ok, r_fs, kFS1_ok, kFS2_ok, nxO_some, r_sl1, kSL1_ok, kSL2_ok, kSL3_ok, r_fnB, kFn_nx, kFn_rt, kFn_xc, r_lc, kLc_ok, r_yes, r_tgtp, kTg_ok, r_items, r_itemsT, kItems_ok, r_self, kSelf_ok, kSelf_no, ne_eq, reduceCtorEq, not_false_eq_true, r_isiR, kIsi_ok, r_ty, kTy_l, r_getF, kGetF_ok, kLk_ok, lk_yes, r_setF, r_itLl, kItL_ok, r_isL, kIsL_ok, r_lApp, kApp_ok, r_getI, kGetI_ok, r_getIT, r_setI, kSetI_ok, kStO_ok, r_while, r_bm0, kBM0_ok, r_lClear, kClear_ok, r_len, kLen_ok, len_tup, r_sl4, kSl4_ok, stepQ_nx, stepQ_ct, stepQ_bk, stepQ_rt, stepQ_xc,
  Res.bind_ok, Res.bind_exc, Res.bind_stuck,
  List.map_cons, List.map_nil, List.length_cons, List.length_nil, List.replicate_succ, List.replicate_zero, List.cons_append, List.nil_append, List.append_nil, List.set_cons_succ, List.set_cons_zero, List.getElem?_cons_succ, List.getElem?_cons_zero,
  Nat.reduceAdd, Nat.reduceSub, Nat.zero_add, Nat.sub_self, Bool.not_true, Bool.not_false, eq_self_iff_true]
theorem so_th (l : Nat) (S : Sto) : f_Thing_sort_of [.loc l] S = .ok (.str "weak") S := by
  unfold f_Thing_sort_of b_Thing_sort_of; simp -implicitDefEqProofs only [r_var, kVar_ok, r_c, r_op2, kOpA_ok, kOpA_exc, kOpB_ok, kOpB_exc, r_test, r_asB, r_and, r_or, r_not, kAnd_t, kAnd_f, kAnd_exc, kOr_t, kOr_f, kOr_exc, kNot_ok, kNot_exc, r_mand, r_mor, r_mnot, kMAnd_t, kMAnd_f, kMOr_t, kMOr_f, kMNot_ok, r_ife, kIfE_t, kIfE_f, kIfE_exc,
  r_anil, r_acons, kArg_ok, kArg_exc, kArgs_ok, kArgs_exc, r_tup, r_lst, r_fld, r_call, kCall_ok, kCall_exc, r_call0, noX_ok, r_meth, kM1_ok, kM1_exc, kM2_ok, kM2_stuck, kM3_ok, kM3_exc, r_meth0, kN1_ok, kN1_exc, kN2_ok, kN2_stuck, r_make, kMake_ok, mkEnd_ok, r_cb, r_isi, r_bm, kBM1_ok, kBM2_ok, r_alt, kAlt_ok, kAlt_exc, kAlt_stuck,
  r_sl, kSl1_ok, kSl2_ok, kSl3_ok, r_ptN, r_ptS, optI_ok, r_nil, r_seq, kSeq_nx, kSeq_rt, kSeq_xc, kSeq_bk, kSeq_ct, r_clr, kClr_nx, kClr_rt, kClr_xc, kClr_bk, kClr_ct, clr_nil, clr_cons, r_set, kSet_ok, kSet_exc, r_expr, kExpr_ok, kExpr_exc, r_ret, kRet_ok, kRet_exc, r_retN, r_if, kSIf_t, kSIf_f, kSIf_exc, r_brk, r_cont, r_for, kFor_ok,
  kItA_ok, kIt_some, r_itL, r_itT, r_itS, r_itR1, r_itR2, r_itEn, r_asg, kAsg_ok, sTgO_some, tgM_nm, setAllM_nil, setAllM_cons, r_aug, kAug1_ok, kAug2_ok, r_fs, kFS1_ok, kFS2_ok, nxO_some, r_sl1, kSL1_ok, kSL2_ok, kSL3_ok, r_fnB, kFn_nx, kFn_rt, kFn_xc, r_lc, kLc_ok, r_yes, r_tgtp, kTg_ok, r_items, r_itemsT, kItems_ok, r_self, kSelf_ok, kSelf_no, ne_eq, reduceCtorEq, not_false_eq_true, r_isiR, kIsi_ok, r_ty, kTy_l, r_getF, kGetF_ok, kLk_ok, lk_yes, r_setF, r_itLl, kItL_ok, r_isL, kIsL_ok, r_lApp, kApp_ok, r_getI, kGetI_ok, r_getIT, r_setI, kSetI_ok, kStO_ok, r_while, r_bm0, kBM0_ok, r_lClear, kClear_ok, r_len, kLen_ok, len_tup, r_sl4, kSl4_ok, stepQ_nx, stepQ_ct, stepQ_bk, stepQ_rt, stepQ_xc,
  Res.bind_ok, Res.bind_exc, Res.bind_stuck,
  List.map_cons, List.map_nil, List.length_cons, List.length_nil, List.replicate_succ, List.replicate_zero, List.cons_append, List.nil_append, List.append_nil, List.set_cons_succ, List.set_cons_zero, List.getElem?_cons_succ, List.getElem?_cons_zero,
  Nat.reduceAdd, Nat.reduceSub, Nat.zero_add, Nat.sub_self, Bool.not_true, Bool.not_false, eq_self_iff_true]
theorem so_pa (l : Nat) (S : Sto) : f_Pair_sort_of [.loc l] S = .ok (.str "pair") S := by
  unfold f_Pair_sort_of b_Pair_sort_of; simp -implicitDefEqProofs only [r_var, kVar_ok, r_c, r_op2, kOpA_ok, kOpA_exc, kOpB_ok, kOpB_exc, r_test, r_asB, r_and, r_or, r_not, kAnd_t, kAnd_f, kAnd_exc, kOr_t, kOr_f, kOr_exc, kNot_ok, kNot_exc, r_mand, r_mor, r_mnot, kMAnd_t, kMAnd_f, kMOr_t, kMOr_f, kMNot_ok, r_ife, kIfE_t, kIfE_f, kIfE_exc,
  r_anil, r_acons, kArg_ok, kArg_exc, kArgs_ok, kArgs_exc, r_tup, r_lst, r_fld, r_call, kCall_ok, kCall_exc, r_call0, noX_ok, r_meth, kM1_ok, kM1_exc, kM2_ok, kM2_stuck, kM3_ok, kM3_exc, r_meth0, kN1_ok, kN1_exc, kN2_ok, kN2_stuck, r_make, kMake_ok, mkEnd_ok, r_cb, r_isi, r_bm, kBM1_ok, kBM2_ok, r_alt, kAlt_ok, kAlt_exc, kAlt_stuck,
  r_sl, kSl1_ok, kSl2_ok, kSl3_ok, r_ptN, r_ptS, optI_ok, r_nil, r_seq, kSeq_nx, kSeq_rt, kSeq_xc, kSeq_bk, kSeq_ct, r_clr, kClr_nx, kClr_rt, kClr_xc, kClr_bk, kClr_ct, clr_nil, clr_cons, r_set, kSet_ok, kSet_exc, r_expr, kExpr_ok, kExpr_exc, r_ret, kRet_ok, kRet_exc, r_retN, r_if, kSIf_t, kSIf_f, kSIf_exc, r_brk, r_cont, r_for, kFor_ok,
  kItA_ok, kIt_some, r_itL, r_itT, r_itS, r_itR1, r_itR2, r_itEn, r_asg, kAsg_ok, sTgO_some, tgM_nm, setAllM_nil, setAllM_cons, r_aug, kAug1_ok, kAug2_ok, r_fs, kFS1_ok, kFS2_ok, nxO_some, r_sl1, kSL1_ok, kSL2_ok, kSL3_ok, r_fnB, kFn_nx, kFn_rt, kFn_xc, r_lc, kLc_ok, r_yes, r_tgtp, kTg_ok, r_items, r_itemsT, kItems_ok, r_self, kSelf_ok, kSelf_no, ne_eq, reduceCtorEq, not_false_eq_true, r_isiR, kIsi_ok, r_ty, kTy_l, r_getF, kGetF_ok, kLk_ok, lk_yes, r_setF, r_itLl, kItL_ok, r_isL, kIsL_ok, r_lApp, kApp_ok, r_getI, kGetI_ok, r_getIT, r_setI, kSetI_ok, kStO_ok, r_while, r_bm0, kBM0_ok, r_lClear, kClear_ok, r_len, kLen_ok, len_tup, r_sl4, kSl4_ok, stepQ_nx, stepQ_ct, stepQ_bk, stepQ_rt, stepQ_xc,
  Res.bind_ok, Res.bind_exc, Res.bind_stuck,
  List.map_cons, List.map_nil, List.length_cons, List.length_nil, List.replicate_succ, List.replicate_zero, List.cons_append, List.nil_append, List.append_nil, List.set_cons_succ, List.set_cons_zero, List.getElem?_cons_succ, List.getElem?_cons_zero,
  Nat.reduceAdd, Nat.reduceSub, Nat.zero_add, Nat.sub_self, Bool.not_true, Bool.not_false, eq_self_iff_true]
def waitsOf (k v : D) : List D := if isTh k = true then [.tup [idx k, v]] else []
theorem pw_spec {S : Sto} {c : Cl} {l a : Nat} {fz : Bool} {r : List (Fl × D)} {k v : D} (h : S[l]? = some (.ins c ((.row, .loc a) :: r))) (ha : S[a]? = some (.lst fz [k, v])) (hk : isField k) : f_Pair_waits [.loc l] S = .ok (.loc S.length) (S ++ [.lst false (waitsOf k v)]) := by
  unfold f_Pair_waits b_Pair_waits
  cases ht : isTh k with
  | false => simp -implicitDefEqProofs only [r_var, kVar_ok, r_c, r_op2, kOpA_ok, kOpA_exc, kOpB_ok, kOpB_exc, r_test, r_asB, r_and, r_or, r_not, kAnd_t, kAnd_f, kAnd_exc, kOr_t, kOr_f, kOr_exc, kNot_ok, kNot_exc, r_mand, r_mor, r_mnot, kMAnd_t, kMAnd_f, kMOr_t, kMOr_f, kMNot_ok, r_ife, kIfE_t, kIfE_f, kIfE_exc,
  r_anil, r_acons, kArg_ok, kArg_exc, kArgs_ok, kArgs_exc, r_tup, r_lst, r_fld, r_call, kCall_ok, kCall_exc, r_call0, noX_ok, r_meth, kM1_ok, kM1_exc, kM2_ok, kM2_stuck, kM3_ok, kM3_exc, r_meth0, kN1_ok, kN1_exc, kN2_ok, kN2_stuck, r_make, kMake_ok, mkEnd_ok, r_cb, r_isi, r_bm, kBM1_ok, kBM2_ok, r_alt, kAlt_ok, kAlt_exc, kAlt_stuck,
  r_sl, kSl1_ok, kSl2_ok, kSl3_ok, r_ptN, r_ptS, optI_ok, r_nil, r_seq, kSeq_nx, kSeq_rt, kSeq_xc, kSeq_bk, kSeq_ct, r_clr, kClr_nx, kClr_rt, kClr_xc, kClr_bk, kClr_ct, clr_nil, clr_cons, r_set, kSet_ok, kSet_exc, r_expr, kExpr_ok, kExpr_exc, r_ret, kRet_ok, kRet_exc, r_retN, r_if, kSIf_t, kSIf_f, kSIf_exc, r_brk, r_cont, r_for, kFor_ok,
  kItA_ok, kIt_some, r_itL, r_itT, r_itS, r_itR1, r_itR2, r_itEn, r_asg, kAsg_ok, sTgO_some, tgM_nm, setAllM_nil, setAllM_cons, r_aug, kAug1_ok, kAug2_ok, r_fs, kFS1_ok, kFS2_ok, nxO_some, r_sl1, kSL1_ok, kSL2_ok, kSL3_ok, r_fnB, kFn_nx, kFn_rt, kFn_xc, r_lc, kLc_ok, r_yes, r_tgtp, kTg_ok, r_items, r_itemsT, kItems_ok, r_self, kSelf_ok, kSelf_no, ne_eq, reduceCtorEq, not_false_eq_true, r_isiR, kIsi_ok, r_ty, kTy_l, r_getF, kGetF_ok, kLk_ok, lk_yes, r_setF, r_itLl, kItL_ok, r_isL, kIsL_ok, r_lApp, kApp_ok, r_getI, kGetI_ok, r_getIT, r_setI, kSetI_ok, kStO_ok, r_while, r_bm0, kBM0_ok, r_lClear, kClear_ok, r_len, kLen_ok, len_tup, r_sl4, kSl4_ok, stepQ_nx, stepQ_ct, stepQ_bk, stepQ_rt, stepQ_xc,
  Res.bind_ok, Res.bind_exc, Res.bind_stuck,
  List.map_cons, List.map_nil, List.length_cons, List.length_nil, List.replicate_succ, List.replicate_zero, List.cons_append, List.nil_append, List.append_nil, List.set_cons_succ, List.set_cons_zero, List.getElem?_cons_succ, List.getElem?_cons_zero,
  Nat.reduceAdd, Nat.reduceSub, Nat.zero_add, Nat.sub_self, Bool.not_true, Bool.not_false, eq_self_iff_true, h, ha, a0_2, is_thing_spec hk, ht, lstD_ok, Nat.zero_le, waitsOf, Bool.false_eq_true, if_false]
  | true => simp -implicitDefEqProofs only [r_var, kVar_ok, r_c, r_op2, kOpA_ok, kOpA_exc, kOpB_ok, kOpB_exc, r_test, r_asB, r_and, r_or, r_not, kAnd_t, kAnd_f, kAnd_exc, kOr_t, kOr_f, kOr_exc, kNot_ok, kNot_exc, r_mand, r_mor, r_mnot, kMAnd_t, kMAnd_f, kMOr_t, kMOr_f, kMNot_ok, r_ife, kIfE_t, kIfE_f, kIfE_exc,
  r_anil, r_acons, kArg_ok, kArg_exc, kArgs_ok, kArgs_exc, r_tup, r_lst, r_fld, r_call, kCall_ok, kCall_exc, r_call0, noX_ok, r_meth, kM1_ok, kM1_exc, kM2_ok, kM2_stuck, kM3_ok, kM3_exc, r_meth0, kN1_ok, kN1_exc, kN2_ok, kN2_stuck, r_make, kMake_ok, mkEnd_ok, r_cb, r_isi, r_bm, kBM1_ok, kBM2_ok, r_alt, kAlt_ok, kAlt_exc, kAlt_stuck,
  r_sl, kSl1_ok, kSl2_ok, kSl3_ok, r_ptN, r_ptS, optI_ok, r_nil, r_seq, kSeq_nx, kSeq_rt, kSeq_xc, kSeq_bk, kSeq_ct, r_clr, kClr_nx, kClr_rt, kClr_xc, kClr_bk, kClr_ct, clr_nil, clr_cons, r_set, kSet_ok, kSet_exc, r_expr, kExpr_ok, kExpr_exc, r_ret, kRet_ok, kRet_exc, r_retN, r_if, kSIf_t, kSIf_f, kSIf_exc, r_brk, r_cont, r_for, kFor_ok,
  kItA_ok, kIt_some, r_itL, r_itT, r_itS, r_itR1, r_itR2, r_itEn, r_asg, kAsg_ok, sTgO_some, tgM_nm, setAllM_nil, setAllM_cons, r_aug, kAug1_ok, kAug2_ok, r_fs, kFS1_ok, kFS2_ok, nxO_some, r_sl1, kSL1_ok, kSL2_ok, kSL3_ok, r_fnB, kFn_nx, kFn_rt, kFn_xc, r_lc, kLc_ok, r_yes, r_tgtp, kTg_ok, r_items, r_itemsT, kItems_ok, r_self, kSelf_ok, kSelf_no, ne_eq, reduceCtorEq, not_false_eq_true, r_isiR, kIsi_ok, r_ty, kTy_l, r_getF, kGetF_ok, kLk_ok, lk_yes, r_setF, r_itLl, kItL_ok, r_isL, kIsL_ok, r_lApp, kApp_ok, r_getI, kGetI_ok, r_getIT, r_setI, kSetI_ok, kStO_ok, r_while, r_bm0, kBM0_ok, r_lClear, kClear_ok, r_len, kLen_ok, len_tup, r_sl4, kSl4_ok, stepQ_nx, stepQ_ct, stepQ_bk, stepQ_rt, stepQ_xc,
  Res.bind_ok, Res.bind_exc, Res.bind_stuck,
  List.map_cons, List.map_nil, List.length_cons, List.length_nil, List.replicate_succ, List.replicate_zero, List.cons_append, List.nil_append, List.append_nil, List.set_cons_succ, List.set_cons_zero, List.getElem?_cons_succ, List.getElem?_cons_zero,
  Nat.reduceAdd, Nat.reduceSub, Nat.zero_add, Nat.sub_self, Bool.not_true, Bool.not_false, eq_self_iff_true, h, ha, a0_2, a1_2, is_thing_spec hk, ht, (idx_spec hk ht _).1, tupD_ok, lstD_ok, Nat.reduceLeDiff, waitsOf, if_true]
theorem thing_init_spec {S : Sto} {c : Cl} {l h : Nat} {fz : Bool} {fs : List D} (hc : okF c .row = true) (hl : S[l]? = some (.ins c [])) (hh : S[h]? = some (.lst fz fs)) :
    f_Thing_init [.loc l, .loc h] S = (.ok .non ((S ++ [O.lst false fs]).set l (.ins c [(.row, .loc S.length)])) : Res D) := by
  unfold f_Thing_init b_Thing_init
  simp -implicitDefEqProofs only [r_var, kVar_ok, r_c, r_op2, kOpA_ok, kOpA_exc, kOpB_ok, kOpB_exc, r_test, r_asB, r_and, r_or, r_not, kAnd_t, kAnd_f, kAnd_exc, kOr_t, kOr_f, kOr_exc, kNot_ok, kNot_exc, r_mand, r_mor, r_mnot, kMAnd_t, kMAnd_f, kMOr_t, kMOr_f, kMNot_ok, r_ife, kIfE_t, kIfE_f, kIfE_exc,
  r_anil, r_acons, kArg_ok, kArg_exc, kArgs_ok, kArgs_exc, r_tup, r_lst, r_fld, r_call, kCall_ok, kCall_exc, r_call0, noX_ok, r_meth, kM1_ok, kM1_exc, kM2_ok, kM2_stuck, kM3_ok, kM3_exc, r_meth0, kN1_ok, kN1_exc, kN2_ok, kN2_stuck, r_make, kMake_ok, mkEnd_ok, r_cb, r_isi, r_bm, kBM1_ok, kBM2_ok, r_alt, kAlt_ok, kAlt_exc, kAlt_stuck,
  r_sl, kSl1_ok, kSl2_ok, kSl3_ok, r_ptN, r_ptS, optI_ok, r_nil, r_seq, kSeq_nx, kSeq_rt, kSeq_xc, kSeq_bk, kSeq_ct, r_clr, kClr_nx, kClr_rt, kClr_xc, kClr_bk, kClr_ct, clr_nil, clr_cons, r_set, kSet_ok, kSet_exc, r_expr, kExpr_ok, kExpr_exc, r_ret, kRet_ok, kRet_exc, r_retN, r_if, kSIf_t, kSIf_f, kSIf_exc, r_brk, r_cont, r_for, kFor_ok,
  kItA_ok, kIt_some, r_itL, r_itT, r_itS, r_itR1, r_itR2, r_itEn, r_asg, kAsg_ok, sTgO_some, tgM_nm, setAllM_nil, setAllM_cons, r_aug, kAug1_ok, kAug2_ok, r_fs, kFS1_ok, kFS2_ok, nxO_some, r_sl1, kSL1_ok, kSL2_ok, kSL3_ok, r_fnB, kFn_nx, kFn_rt, kFn_xc, r_lc, kLc_ok, r_yes, r_tgtp, kTg_ok, r_items, r_itemsT, kItems_ok, r_self, kSelf_ok, kSelf_no, ne_eq, reduceCtorEq, not_false_eq_true, r_isiR, kIsi_ok, r_ty, kTy_l, r_getF, kGetF_ok, kLk_ok, lk_yes, r_setF, r_itLl, kItL_ok, r_isL, kIsL_ok, r_lApp, kApp_ok, r_getI, kGetI_ok, r_getIT, r_setI, kSetI_ok, kStO_ok, r_while, r_bm0, kBM0_ok, r_lClear, kClear_ok, r_len, kLen_ok, len_tup, r_sl4, kSl4_ok, stepQ_nx, stepQ_ct, stepQ_bk, stepQ_rt, stepQ_xc,
  Res.bind_ok, Res.bind_exc, Res.bind_stuck,
  List.map_cons, List.map_nil, List.length_cons, List.length_nil, List.replicate_succ, List.replicate_zero, List.cons_append, List.nil_append, List.append_nil, List.set_cons_succ, List.set_cons_zero, List.getElem?_cons_succ, List.getElem?_cons_zero,
  Nat.reduceAdd, Nat.reduceSub, Nat.zero_add, Nat.sub_self, Bool.not_true, Bool.not_false, eq_self_iff_true, cList_ok hh, get_app hl, kSetF_ok hc, Nat.reduceLT, putFl]
theorem plain_make {S : Sto} {h : Nat} {fz : Bool} {fs : List D} {w : D} (hh : S[h]? = some (.lst fz fs)) :
    mkEnd S.length (f_Plain_init [.loc S.length, .loc h, w] (S ++ [.ins .Plain []])) = .ok (.loc S.length) (S ++ [.ins .Plain [(.row, .loc (S.length + 1)), (.last_words, w)], .lst false fs]) := by
  have q := thing_init_spec (S := S ++ [.ins .Plain []]) (c := .Plain) (l := S.length) (h := h) (fs := fs) (by decide) (get_last _ _) (get_app hh)
  have e : ((S ++ [O.ins Cl.Plain []] ++ [O.lst false fs]).set S.length (.ins .Plain [(.row, .loc (S ++ [O.ins Cl.Plain []]).length)])) = S ++ [.ins .Plain [(.row, .loc (S.length + 1))], .lst false fs] := by
    rw [List.append_assoc, set_z]
    simp
  rw [e] at q
  have o2 : okF .Plain .last_words = true := by decide
  have f3 : (Fl.row = Fl.last_words) = False := by simp
  unfold f_Plain_init b_Plain_init
  simp -implicitDefEqProofs only [r_var, kVar_ok, r_c, r_op2, kOpA_ok, kOpA_exc, kOpB_ok, kOpB_exc, r_test, r_asB, r_and, r_or, r_not, kAnd_t, kAnd_f, kAnd_exc, kOr_t, kOr_f, kOr_exc, kNot_ok, kNot_exc, r_mand, r_mor, r_mnot, kMAnd_t, kMAnd_f, kMOr_t, kMOr_f, kMNot_ok, r_ife, kIfE_t, kIfE_f, kIfE_exc,
  r_anil, r_acons, kArg_ok, kArg_exc, kArgs_ok, kArgs_exc, r_tup, r_lst, r_fld, r_call, kCall_ok, kCall_exc, r_call0, noX_ok, r_meth, kM1_ok, kM1_exc, kM2_ok, kM2_stuck, kM3_ok, kM3_exc, r_meth0, kN1_ok, kN1_exc, kN2_ok, kN2_stuck, r_make, kMake_ok, mkEnd_ok, r_cb, r_isi, r_bm, kBM1_ok, kBM2_ok, r_alt, kAlt_ok, kAlt_exc, kAlt_stuck,
  r_sl, kSl1_ok, kSl2_ok, kSl3_ok, r_ptN, r_ptS, optI_ok, r_nil, r_seq, kSeq_nx, kSeq_rt, kSeq_xc, kSeq_bk, kSeq_ct, r_clr, kClr_nx, kClr_rt, kClr_xc, kClr_bk, kClr_ct, clr_nil, clr_cons, r_set, kSet_ok, kSet_exc, r_expr, kExpr_ok, kExpr_exc, r_ret, kRet_ok, kRet_exc, r_retN, r_if, kSIf_t, kSIf_f, kSIf_exc, r_brk, r_cont, r_for, kFor_ok,
  kItA_ok, kIt_some, r_itL, r_itT, r_itS, r_itR1, r_itR2, r_itEn, r_asg, kAsg_ok, sTgO_some, tgM_nm, setAllM_nil, setAllM_cons, r_aug, kAug1_ok, kAug2_ok, r_fs, kFS1_ok, kFS2_ok, nxO_some, r_sl1, kSL1_ok, kSL2_ok, kSL3_ok, r_fnB, kFn_nx, kFn_rt, kFn_xc, r_lc, kLc_ok, r_yes, r_tgtp, kTg_ok, r_items, r_itemsT, kItems_ok, r_self, kSelf_ok, kSelf_no, ne_eq, reduceCtorEq, not_false_eq_true, r_isiR, kIsi_ok, r_ty, kTy_l, r_getF, kGetF_ok, kLk_ok, lk_yes, r_setF, r_itLl, kItL_ok, r_isL, kIsL_ok, r_lApp, kApp_ok, r_getI, kGetI_ok, r_getIT, r_setI, kSetI_ok, kStO_ok, r_while, r_bm0, kBM0_ok, r_lClear, kClear_ok, r_len, kLen_ok, len_tup, r_sl4, kSl4_ok, stepQ_nx, stepQ_ct, stepQ_bk, stepQ_rt, stepQ_xc,
  Res.bind_ok, Res.bind_exc, Res.bind_stuck,
  List.map_cons, List.map_nil, List.length_cons, List.length_nil, List.replicate_succ, List.replicate_zero, List.cons_append, List.nil_append, List.append_nil, List.set_cons_succ, List.set_cons_zero, List.getElem?_cons_succ, List.getElem?_cons_zero,
  Nat.reduceAdd, Nat.reduceSub, Nat.zero_add, Nat.sub_self, Bool.not_true, Bool.not_false, eq_self_iff_true, q]
  simp -implicitDefEqProofs only [r_var, kVar_ok, r_c, r_op2, kOpA_ok, kOpA_exc, kOpB_ok, kOpB_exc, r_test, r_asB, r_and, r_or, r_not, kAnd_t, kAnd_f, kAnd_exc, kOr_t, kOr_f, kOr_exc, kNot_ok, kNot_exc, r_mand, r_mor, r_mnot, kMAnd_t, kMAnd_f, kMOr_t, kMOr_f, kMNot_ok, r_ife, kIfE_t, kIfE_f, kIfE_exc,
  r_anil, r_acons, kArg_ok, kArg_exc, kArgs_ok, kArgs_exc, r_tup, r_lst, r_fld, r_call, kCall_ok, kCall_exc, r_call0, noX_ok, r_meth, kM1_ok, kM1_exc, kM2_ok, kM2_stuck, kM3_ok, kM3_exc, r_meth0, kN1_ok, kN1_exc, kN2_ok, kN2_stuck, r_make, kMake_ok, mkEnd_ok, r_cb, r_isi, r_bm, kBM1_ok, kBM2_ok, r_alt, kAlt_ok, kAlt_exc, kAlt_stuck,
  r_sl, kSl1_ok, kSl2_ok, kSl3_ok, r_ptN, r_ptS, optI_ok, r_nil, r_seq, kSeq_nx, kSeq_rt, kSeq_xc, kSeq_bk, kSeq_ct, r_clr, kClr_nx, kClr_rt, kClr_xc, kClr_bk, kClr_ct, clr_nil, clr_cons, r_set, kSet_ok, kSet_exc, r_expr, kExpr_ok, kExpr_exc, r_ret, kRet_ok, kRet_exc, r_retN, r_if, kSIf_t, kSIf_f, kSIf_exc, r_brk, r_cont, r_for, kFor_ok,
  kItA_ok, kIt_some, r_itL, r_itT, r_itS, r_itR1, r_itR2, r_itEn, r_asg, kAsg_ok, sTgO_some, tgM_nm, setAllM_nil, setAllM_cons, r_aug, kAug1_ok, kAug2_ok, r_fs, kFS1_ok, kFS2_ok, nxO_some, r_sl1, kSL1_ok, kSL2_ok, kSL3_ok, r_fnB, kFn_nx, kFn_rt, kFn_xc, r_lc, kLc_ok, r_yes, r_tgtp, kTg_ok, r_items, r_itemsT, kItems_ok, r_self, kSelf_ok, kSelf_no, ne_eq, reduceCtorEq, not_false_eq_true, r_isiR, kIsi_ok, r_ty, kTy_l, r_getF, kGetF_ok, kLk_ok, lk_yes, r_setF, r_itLl, kItL_ok, r_isL, kIsL_ok, r_lApp, kApp_ok, r_getI, kGetI_ok, r_getIT, r_setI, kSetI_ok, kStO_ok, r_while, r_bm0, kBM0_ok, r_lClear, kClear_ok, r_len, kLen_ok, len_tup, r_sl4, kSl4_ok, stepQ_nx, stepQ_ct, stepQ_bk, stepQ_rt, stepQ_xc,
  Res.bind_ok, Res.bind_exc, Res.bind_stuck,
  List.map_cons, List.map_nil, List.length_cons, List.length_nil, List.replicate_succ, List.replicate_zero, List.cons_append, List.nil_append, List.append_nil, List.set_cons_succ, List.set_cons_zero, List.getElem?_cons_succ, List.getElem?_cons_zero,
  Nat.reduceAdd, Nat.reduceSub, Nat.zero_add, Nat.sub_self, Bool.not_true, Bool.not_false, eq_self_iff_true, List.append_assoc, at_z, at_k, set_z, set_k, List.length_append, Nat.add_assoc, r_addL, kAdd_ok, r_rep, r_en, kEn_ok, putFl, kSetF_ok o2, Nat.reduceLT, f3, if_false, mkEnd_ok]
theorem thing_make {S : Sto} {c : Cl} {h : Nat} {fz : Bool} {fs : List D} (hc : okF c .row = true) (hh : S[h]? = some (.lst fz fs)) :
    mkEnd S.length (f_Thing_init [.loc S.length, .loc h] (S ++ [.ins c []])) = .ok (.loc S.length) (S ++ [.ins c [(.row, .loc (S.length + 1))], .lst false fs]) := by
  rw [thing_init_spec (c := c) hc (get_last _ _) (get_app hh), mkEnd_ok]
  rw [List.append_assoc, set_z]
  simp

/-! ### what is right of a thing -/
theorem pd_w {w : D} (h : okf w) : ∃ p : PyData, (∀ S n, pd S (n + 1) w = some p) ∧ p.canLay0 = true ∧ smallP p = true := h
/-- two rows of what a thing tells, the same data -/
theorem rows_alike {S : Sto} {z : Str} {f1 f2 h1 h2 w1 w2 : Nat} {b1 b2 b3 b4 b5 b6 : Bool} {w : D} {fs hs ws : List D} {wp : List PyData} (hz : (PyData.str z).canLay0 = true) (hw : okf w) (of : okfs fs) (oh : okfs hs) (lf : fs.length ≤ 100000) (lh : hs.length ≤ 100000)
    (ow : ∀ S n, optAll (pd S (n + 2)) ws = some wp) (ol : PyData.canLayAll0 wp = true) (os : smallAll wp = true) (lw : wp.length ≤ 100000)
    (g1 : S[f1]? = some (.lst b1 fs)) (g2 : S[f2]? = some (.lst b2 fs)) (g3 : S[h1]? = some (.lst b3 hs)) (g4 : S[h2]? = some (.lst b4 hs)) (g5 : S[w1]? = some (.lst b5 ws)) (g6 : S[w2]? = some (.lst b6 ws)) :
    f_law_alike 8 [.tup [.str z, .loc f1, w, .loc h1, .loc w1], .tup [.str z, .loc f2, w, .loc h2, .loc w2]] S = .ok (.bl true) S := by
  obtain ⟨pf, e1, l1, s1, n1⟩ := okfs_pd of
  obtain ⟨ph, e2, l2, s2, n2⟩ := okfs_pd oh
  obtain ⟨pw, e3, l3, s3⟩ := hw
  have q : ∀ f h w' : Nat, ∀ b b' b'' : Bool, S[f]? = some (.lst b fs) → S[h]? = some (.lst b' hs) → S[w']? = some (.lst b'' ws) → pd S 7 (.tup [.str z, .loc f, w, .loc h, .loc w']) = some (.tuple [.str z, .list pf, pw, .list ph, .list wp]) := by
    intro f h w' b b' b'' a1 a2 a3
    exact pd_tup (n := 6) (optAll_cons pd_str (optAll_cons (pd_loc a1 (e1 S 4)) (optAll_cons (e3 S 5) (optAll_cons (pd_loc a2 (e2 S 4)) (optAll_cons (pd_loc a3 (ow S 3)) rfl)))))
  refine alike_spec 7 (q f1 h1 w1 b1 b3 b5 g1 g3 g5) (q f2 h2 w2 b2 b4 b6 g2 g4 g6) ?_ ?_
  · simp only [PyData.canLay0, PyData.canLayAll0, l1, l2, l3, ol, Bool.and_true, Bool.and_self]
    simpa [PyData.canLay0] using hz
  · simp only [smallP, smallAll, s1, s2, s3, os, Bool.and_true, Bool.and_self]
    simp [n1, n2, lf, lh, lw]
theorem holds_len {fs : List D} : (holdsOf fs).length ≤ fs.length := by
  unfold holdsOf
  rw [List.length_map]
  exact List.length_filter_le _ _
theorem pp_np : decide (("plain" : Str) = "pair") = false := by decide +kernel
theorem pa_pl : decide (("pair" : Str) = "plain") = false := by decide +kernel
theorem we_pl : decide (("weak" : Str) = "plain") = false := by decide +kernel
theorem we_pa : decide (("weak" : Str) = "pair") = false := by decide +kernel
theorem right_plain {S : Sto} {l a b : Nat} {fz gz : Bool} {w : D} {fs : List D} (hl : S[l]? = some (.ins .Plain [(.row, .loc a), (.last_words, w)])) (ha : S[a]? = some (.lst fz fs)) (hb : S[b]? = some (.lst gz fs)) (hf : ∀ x ∈ fs, isField x) (hn : fs.length ≤ 1000) (hw : okf w) :
    ∃ S', f_law_right [.loc l, .str "plain", .loc b, w] S = .ok (.bl true) S' ∧ S <+: S' := by
  obtain ⟨S1, hS1⟩ : ∃ S1, S1 = S ++ [O.lst false []] := ⟨_, rfl⟩
  obtain ⟨S2, hS2⟩ : ∃ S2, S2 = S1 ++ [O.lst false []] := ⟨_, rfl⟩
  obtain ⟨S3, hS3⟩ : ∃ S3, S3 = S2 ++ [O.lst false (holdsOf fs)] := ⟨_, rfl⟩
  obtain ⟨S4, hS4⟩ : ∃ S4, S4 = S3 ++ [O.lst false fs] := ⟨_, rfl⟩
  obtain ⟨S5, hS5⟩ : ∃ S5, S5 = S4 ++ [O.lst false (holdsOf fs)] := ⟨_, rfl⟩
  obtain ⟨S6, hS6⟩ : ∃ S6, S6 = S5 ++ [O.lst false []] := ⟨_, rfl⟩
  have p1 : S <+: S1 := ⟨_, hS1.symm⟩
  have p2 : S1 <+: S2 := ⟨_, hS2.symm⟩
  have p3 : S2 <+: S3 := ⟨_, hS3.symm⟩
  have p4 : S3 <+: S4 := ⟨_, hS4.symm⟩
  have p5 : S4 <+: S5 := ⟨_, hS5.symm⟩
  have p6 : S5 <+: S6 := ⟨_, hS6.symm⟩
  have p02 := p1.trans p2
  have p03 := p02.trans p3
  have p04 := p03.trans p4
  have p05 := p04.trans p5
  have p06 := p05.trans p6
  have lc := lc_holds (S := S2) (i1 := 7) (ρ := [some (.loc l), some (.str "plain"), some (.loc b), some w, some (.loc S.length), some (.loc S1.length), none, none]) (tt := mTest (mOp2 eqR (mOp2 getI (mVar 7) (mC (.int 0))) (mC (.str "thing")))) (pfx_get p02 hb) hf (by omega) (by show 7 < 8; decide) (by
    intro x hx T
    rcases hx with rfl | ⟨i, rfl⟩ | ⟨i, rfl⟩
    · simp -implicitDefEqProofs only [r_var, kVar_ok, r_c, r_op2, kOpA_ok, kOpA_exc, kOpB_ok, kOpB_exc, r_test, r_asB, r_and, r_or, r_not, kAnd_t, kAnd_f, kAnd_exc, kOr_t, kOr_f, kOr_exc, kNot_ok, kNot_exc, r_mand, r_mor, r_mnot, kMAnd_t, kMAnd_f, kMOr_t, kMOr_f, kMNot_ok, r_ife, kIfE_t, kIfE_f, kIfE_exc,
  r_anil, r_acons, kArg_ok, kArg_exc, kArgs_ok, kArgs_exc, r_tup, r_lst, r_fld, r_call, kCall_ok, kCall_exc, r_call0, noX_ok, r_meth, kM1_ok, kM1_exc, kM2_ok, kM2_stuck, kM3_ok, kM3_exc, r_meth0, kN1_ok, kN1_exc, kN2_ok, kN2_stuck, r_make, kMake_ok, mkEnd_ok, r_cb, r_isi, r_bm, kBM1_ok, kBM2_ok, r_alt, kAlt_ok, kAlt_exc, kAlt_stuck,
  r_sl, kSl1_ok, kSl2_ok, kSl3_ok, r_ptN, r_ptS, optI_ok, r_nil, r_seq, kSeq_nx, kSeq_rt, kSeq_xc, kSeq_bk, kSeq_ct, r_clr, kClr_nx, kClr_rt, kClr_xc, kClr_bk, kClr_ct, clr_nil, clr_cons, r_set, kSet_ok, kSet_exc, r_expr, kExpr_ok, kExpr_exc, r_ret, kRet_ok, kRet_exc, r_retN, r_if, kSIf_t, kSIf_f, kSIf_exc, r_brk, r_cont, r_for, kFor_ok,
  kItA_ok, kIt_some, r_itL, r_itT, r_itS, r_itR1, r_itR2, r_itEn, r_asg, kAsg_ok, sTgO_some, tgM_nm, setAllM_nil, setAllM_cons, r_aug, kAug1_ok, kAug2_ok, r_fs, kFS1_ok, kFS2_ok, nxO_some, r_sl1, kSL1_ok, kSL2_ok, kSL3_ok, r_fnB, kFn_nx, kFn_rt, kFn_xc, r_lc, kLc_ok, r_yes, r_tgtp, kTg_ok, r_items, r_itemsT, kItems_ok, r_self, kSelf_ok, kSelf_no, ne_eq, reduceCtorEq, not_false_eq_true, r_isiR, kIsi_ok, r_ty, kTy_l, r_getF, kGetF_ok, kLk_ok, lk_yes, r_setF, r_itLl, kItL_ok, r_isL, kIsL_ok, r_lApp, kApp_ok, r_getI, kGetI_ok, r_getIT, r_setI, kSetI_ok, kStO_ok, r_while, r_bm0, kBM0_ok, r_lClear, kClear_ok, r_len, kLen_ok, len_tup, r_sl4, kSl4_ok, stepQ_nx, stepQ_ct, stepQ_bk, stepQ_rt, stepQ_xc,
  Res.bind_ok, Res.bind_exc, Res.bind_stuck,
  List.map_cons, List.map_nil, List.length_cons, List.length_nil, List.replicate_succ, List.replicate_zero, List.cons_append, List.nil_append, List.append_nil, List.set_cons_succ, List.set_cons_zero, List.getElem?_cons_succ, List.getElem?_cons_zero,
  Nat.reduceAdd, Nat.reduceSub, Nat.zero_add, Nat.sub_self, Bool.not_true, Bool.not_false, eq_self_iff_true, a0_1, eq_str, isTh]
    · simp -implicitDefEqProofs only [r_var, kVar_ok, r_c, r_op2, kOpA_ok, kOpA_exc, kOpB_ok, kOpB_exc, r_test, r_asB, r_and, r_or, r_not, kAnd_t, kAnd_f, kAnd_exc, kOr_t, kOr_f, kOr_exc, kNot_ok, kNot_exc, r_mand, r_mor, r_mnot, kMAnd_t, kMAnd_f, kMOr_t, kMOr_f, kMNot_ok, r_ife, kIfE_t, kIfE_f, kIfE_exc,
  r_anil, r_acons, kArg_ok, kArg_exc, kArgs_ok, kArgs_exc, r_tup, r_lst, r_fld, r_call, kCall_ok, kCall_exc, r_call0, noX_ok, r_meth, kM1_ok, kM1_exc, kM2_ok, kM2_stuck, kM3_ok, kM3_exc, r_meth0, kN1_ok, kN1_exc, kN2_ok, kN2_stuck, r_make, kMake_ok, mkEnd_ok, r_cb, r_isi, r_bm, kBM1_ok, kBM2_ok, r_alt, kAlt_ok, kAlt_exc, kAlt_stuck,
  r_sl, kSl1_ok, kSl2_ok, kSl3_ok, r_ptN, r_ptS, optI_ok, r_nil, r_seq, kSeq_nx, kSeq_rt, kSeq_xc, kSeq_bk, kSeq_ct, r_clr, kClr_nx, kClr_rt, kClr_xc, kClr_bk, kClr_ct, clr_nil, clr_cons, r_set, kSet_ok, kSet_exc, r_expr, kExpr_ok, kExpr_exc, r_ret, kRet_ok, kRet_exc, r_retN, r_if, kSIf_t, kSIf_f, kSIf_exc, r_brk, r_cont, r_for, kFor_ok,
  kItA_ok, kIt_some, r_itL, r_itT, r_itS, r_itR1, r_itR2, r_itEn, r_asg, kAsg_ok, sTgO_some, tgM_nm, setAllM_nil, setAllM_cons, r_aug, kAug1_ok, kAug2_ok, r_fs, kFS1_ok, kFS2_ok, nxO_some, r_sl1, kSL1_ok, kSL2_ok, kSL3_ok, r_fnB, kFn_nx, kFn_rt, kFn_xc, r_lc, kLc_ok, r_yes, r_tgtp, kTg_ok, r_items, r_itemsT, kItems_ok, r_self, kSelf_ok, kSelf_no, ne_eq, reduceCtorEq, not_false_eq_true, r_isiR, kIsi_ok, r_ty, kTy_l, r_getF, kGetF_ok, kLk_ok, lk_yes, r_setF, r_itLl, kItL_ok, r_isL, kIsL_ok, r_lApp, kApp_ok, r_getI, kGetI_ok, r_getIT, r_setI, kSetI_ok, kStO_ok, r_while, r_bm0, kBM0_ok, r_lClear, kClear_ok, r_len, kLen_ok, len_tup, r_sl4, kSl4_ok, stepQ_nx, stepQ_ct, stepQ_bk, stepQ_rt, stepQ_xc,
  Res.bind_ok, Res.bind_exc, Res.bind_stuck,
  List.map_cons, List.map_nil, List.length_cons, List.length_nil, List.replicate_succ, List.replicate_zero, List.cons_append, List.nil_append, List.append_nil, List.set_cons_succ, List.set_cons_zero, List.getElem?_cons_succ, List.getElem?_cons_zero,
  Nat.reduceAdd, Nat.reduceSub, Nat.zero_add, Nat.sub_self, Bool.not_true, Bool.not_false, eq_self_iff_true, a0_2, eq_str, isTh]
    · simp -implicitDefEqProofs only [r_var, kVar_ok, r_c, r_op2, kOpA_ok, kOpA_exc, kOpB_ok, kOpB_exc, r_test, r_asB, r_and, r_or, r_not, kAnd_t, kAnd_f, kAnd_exc, kOr_t, kOr_f, kOr_exc, kNot_ok, kNot_exc, r_mand, r_mor, r_mnot, kMAnd_t, kMAnd_f, kMOr_t, kMOr_f, kMNot_ok, r_ife, kIfE_t, kIfE_f, kIfE_exc,
  r_anil, r_acons, kArg_ok, kArg_exc, kArgs_ok, kArgs_exc, r_tup, r_lst, r_fld, r_call, kCall_ok, kCall_exc, r_call0, noX_ok, r_meth, kM1_ok, kM1_exc, kM2_ok, kM2_stuck, kM3_ok, kM3_exc, r_meth0, kN1_ok, kN1_exc, kN2_ok, kN2_stuck, r_make, kMake_ok, mkEnd_ok, r_cb, r_isi, r_bm, kBM1_ok, kBM2_ok, r_alt, kAlt_ok, kAlt_exc, kAlt_stuck,
  r_sl, kSl1_ok, kSl2_ok, kSl3_ok, r_ptN, r_ptS, optI_ok, r_nil, r_seq, kSeq_nx, kSeq_rt, kSeq_xc, kSeq_bk, kSeq_ct, r_clr, kClr_nx, kClr_rt, kClr_xc, kClr_bk, kClr_ct, clr_nil, clr_cons, r_set, kSet_ok, kSet_exc, r_expr, kExpr_ok, kExpr_exc, r_ret, kRet_ok, kRet_exc, r_retN, r_if, kSIf_t, kSIf_f, kSIf_exc, r_brk, r_cont, r_for, kFor_ok,
  kItA_ok, kIt_some, r_itL, r_itT, r_itS, r_itR1, r_itR2, r_itEn, r_asg, kAsg_ok, sTgO_some, tgM_nm, setAllM_nil, setAllM_cons, r_aug, kAug1_ok, kAug2_ok, r_fs, kFS1_ok, kFS2_ok, nxO_some, r_sl1, kSL1_ok, kSL2_ok, kSL3_ok, r_fnB, kFn_nx, kFn_rt, kFn_xc, r_lc, kLc_ok, r_yes, r_tgtp, kTg_ok, r_items, r_itemsT, kItems_ok, r_self, kSelf_ok, kSelf_no, ne_eq, reduceCtorEq, not_false_eq_true, r_isiR, kIsi_ok, r_ty, kTy_l, r_getF, kGetF_ok, kLk_ok, lk_yes, r_setF, r_itLl, kItL_ok, r_isL, kIsL_ok, r_lApp, kApp_ok, r_getI, kGetI_ok, r_getIT, r_setI, kSetI_ok, kStO_ok, r_while, r_bm0, kBM0_ok, r_lClear, kClear_ok, r_len, kLen_ok, len_tup, r_sl4, kSl4_ok, stepQ_nx, stepQ_ct, stepQ_bk, stepQ_rt, stepQ_xc,
  Res.bind_ok, Res.bind_exc, Res.bind_stuck,
  List.map_cons, List.map_nil, List.length_cons, List.length_nil, List.replicate_succ, List.replicate_zero, List.cons_append, List.nil_append, List.append_nil, List.set_cons_succ, List.set_cons_zero, List.getElem?_cons_succ, List.getElem?_cons_zero,
  Nat.reduceAdd, Nat.reduceSub, Nat.zero_add, Nat.sub_self, Bool.not_true, Bool.not_false, eq_self_iff_true, a0_2, eq_str, isTh])
  rw [← hS3] at lc
  have qf := fields_spec (pfx_get p03 hl) (pfx_get p03 ha)
  rw [← hS4] at qf
  have qw := pl_words (pfx_get p04 hl)
  have qh := pholds_spec (pfx_get p04 hl) (pfx_get p04 ha) hf (by omega)
  rw [← hS5] at qh
  have qv := th_waits l S5
  rw [← hS6] at qv
  have al := rows_alike (S := S6) (z := "plain") (f1 := S3.length) (f2 := b) (h1 := S4.length) (h2 := S2.length) (w1 := S5.length) (w2 := S1.length) (w := w) (fs := fs) (hs := holdsOf fs) (ws := []) (wp := []) (by decide +kernel) hw (fun x hx => (hf x hx).ok) (holds_okfs hf) (by omega) (by have := holds_len (fs := fs); omega) (fun _ _ => rfl) rfl rfl (by decide)
    (pfx_get (p5.trans p6) (by rw [hS4]; exact get_last _ _)) (pfx_get p06 hb) (pfx_get p6 (by rw [hS5]; exact get_last _ _)) (pfx_get (p4.trans (p5.trans p6)) (by rw [hS3]; exact get_last _ _)) (by rw [hS6]; exact get_last _ _) (pfx_get (p3.trans (p4.trans (p5.trans p6))) (by rw [hS2]; exact get_last _ _))
  refine ⟨S6, ?_, p06⟩
  unfold f_law_right b_law_right
  simp -implicitDefEqProofs only [r_var, kVar_ok, r_c, r_op2, kOpA_ok, kOpA_exc, kOpB_ok, kOpB_exc, r_test, r_asB, r_and, r_or, r_not, kAnd_t, kAnd_f, kAnd_exc, kOr_t, kOr_f, kOr_exc, kNot_ok, kNot_exc, r_mand, r_mor, r_mnot, kMAnd_t, kMAnd_f, kMOr_t, kMOr_f, kMNot_ok, r_ife, kIfE_t, kIfE_f, kIfE_exc,
  r_anil, r_acons, kArg_ok, kArg_exc, kArgs_ok, kArgs_exc, r_tup, r_lst, r_fld, r_call, kCall_ok, kCall_exc, r_call0, noX_ok, r_meth, kM1_ok, kM1_exc, kM2_ok, kM2_stuck, kM3_ok, kM3_exc, r_meth0, kN1_ok, kN1_exc, kN2_ok, kN2_stuck, r_make, kMake_ok, mkEnd_ok, r_cb, r_isi, r_bm, kBM1_ok, kBM2_ok, r_alt, kAlt_ok, kAlt_exc, kAlt_stuck,
  r_sl, kSl1_ok, kSl2_ok, kSl3_ok, r_ptN, r_ptS, optI_ok, r_nil, r_seq, kSeq_nx, kSeq_rt, kSeq_xc, kSeq_bk, kSeq_ct, r_clr, kClr_nx, kClr_rt, kClr_xc, kClr_bk, kClr_ct, clr_nil, clr_cons, r_set, kSet_ok, kSet_exc, r_expr, kExpr_ok, kExpr_exc, r_ret, kRet_ok, kRet_exc, r_retN, r_if, kSIf_t, kSIf_f, kSIf_exc, r_brk, r_cont, r_for, kFor_ok,
  kItA_ok, kIt_some, r_itL, r_itT, r_itS, r_itR1, r_itR2, r_itEn, r_asg, kAsg_ok, sTgO_some, tgM_nm, setAllM_nil, setAllM_cons, r_aug, kAug1_ok, kAug2_ok, r_fs, kFS1_ok, kFS2_ok, nxO_some, r_sl1, kSL1_ok, kSL2_ok, kSL3_ok, r_fnB, kFn_nx, kFn_rt, kFn_xc, r_lc, kLc_ok, r_yes, r_tgtp, kTg_ok, r_items, r_itemsT, kItems_ok, r_self, kSelf_ok, kSelf_no, ne_eq, reduceCtorEq, not_false_eq_true, r_isiR, kIsi_ok, r_ty, kTy_l, r_getF, kGetF_ok, kLk_ok, lk_yes, r_setF, r_itLl, kItL_ok, r_isL, kIsL_ok, r_lApp, kApp_ok, r_getI, kGetI_ok, r_getIT, r_setI, kSetI_ok, kStO_ok, r_while, r_bm0, kBM0_ok, r_lClear, kClear_ok, r_len, kLen_ok, len_tup, r_sl4, kSl4_ok, stepQ_nx, stepQ_ct, stepQ_bk, stepQ_rt, stepQ_xc,
  Res.bind_ok, Res.bind_exc, Res.bind_stuck,
  List.map_cons, List.map_nil, List.length_cons, List.length_nil, List.replicate_succ, List.replicate_zero, List.cons_append, List.nil_append, List.append_nil, List.set_cons_succ, List.set_cons_zero, List.getElem?_cons_succ, List.getElem?_cons_zero,
  Nat.reduceAdd, Nat.reduceSub, Nat.zero_add, Nat.sub_self, Bool.not_true, Bool.not_false, eq_self_iff_true, lstD_ok, Nat.zero_le, ← hS1, ← hS2, eq_str, decide_true, pfx_get p02 hb, lc, pp_np, tupD_ok, Nat.reduceLeDiff, pfx_get p03 hl, pfx_get p04 hl, pfx_get p05 hl, so_pl, qf, qw, qh, qv, al]
theorem right_weak {S : Sto} {l a b : Nat} {fz gz : Bool} {fs : List D} (hl : S[l]? = some (.ins .Thing [(.row, .loc a)])) (ha : S[a]? = some (.lst fz fs)) (hb : S[b]? = some (.lst gz fs)) (hf : ∀ x ∈ fs, isField x) (hn : fs.length ≤ 1000) :
    ∃ S', f_law_right [.loc l, .str "weak", .loc b, .non] S = .ok (.bl true) S' ∧ S <+: S' := by
  obtain ⟨S1, hS1⟩ : ∃ S1, S1 = S ++ [O.lst false []] := ⟨_, rfl⟩
  obtain ⟨S2, hS2⟩ : ∃ S2, S2 = S1 ++ [O.lst false []] := ⟨_, rfl⟩
  obtain ⟨S4, hS4⟩ : ∃ S4, S4 = S2 ++ [O.lst false fs] := ⟨_, rfl⟩
  obtain ⟨S5, hS5⟩ : ∃ S5, S5 = S4 ++ [O.lst false []] := ⟨_, rfl⟩
  obtain ⟨S6, hS6⟩ : ∃ S6, S6 = S5 ++ [O.lst false []] := ⟨_, rfl⟩
  have p1 : S <+: S1 := ⟨_, hS1.symm⟩
  have p2 : S1 <+: S2 := ⟨_, hS2.symm⟩
  have p4 : S2 <+: S4 := ⟨_, hS4.symm⟩
  have p5 : S4 <+: S5 := ⟨_, hS5.symm⟩
  have p6 : S5 <+: S6 := ⟨_, hS6.symm⟩
  have p02 := p1.trans p2
  have p04 := p02.trans p4
  have p05 := p04.trans p5
  have p06 := p05.trans p6
  have qf := fields_spec (pfx_get p02 hl) (pfx_get p02 ha)
  rw [← hS4] at qf
  have qh := th_holds l S4
  rw [← hS5] at qh
  have qv := th_waits l S5
  rw [← hS6] at qv
  have al := rows_alike (S := S6) (z := "weak") (f1 := S2.length) (f2 := b) (h1 := S4.length) (h2 := S.length) (w1 := S5.length) (w2 := S1.length) (w := .non) (fs := fs) (hs := []) (ws := []) (wp := []) (by decide +kernel) okf_non (fun x hx => (hf x hx).ok) (fun x hx => by cases hx) (by omega) (by decide) (fun _ _ => rfl) rfl rfl (by decide)
    (pfx_get (p5.trans p6) (by rw [hS4]; exact get_last _ _)) (pfx_get p06 hb) (pfx_get p6 (by rw [hS5]; exact get_last _ _)) (pfx_get (p2.trans (p4.trans (p5.trans p6))) (by rw [hS1]; exact get_last _ _)) (by rw [hS6]; exact get_last _ _) (pfx_get (p4.trans (p5.trans p6)) (by rw [hS2]; exact get_last _ _))
  refine ⟨S6, ?_, p06⟩
  unfold f_law_right b_law_right
  simp -implicitDefEqProofs only [r_var, kVar_ok, r_c, r_op2, kOpA_ok, kOpA_exc, kOpB_ok, kOpB_exc, r_test, r_asB, r_and, r_or, r_not, kAnd_t, kAnd_f, kAnd_exc, kOr_t, kOr_f, kOr_exc, kNot_ok, kNot_exc, r_mand, r_mor, r_mnot, kMAnd_t, kMAnd_f, kMOr_t, kMOr_f, kMNot_ok, r_ife, kIfE_t, kIfE_f, kIfE_exc,
  r_anil, r_acons, kArg_ok, kArg_exc, kArgs_ok, kArgs_exc, r_tup, r_lst, r_fld, r_call, kCall_ok, kCall_exc, r_call0, noX_ok, r_meth, kM1_ok, kM1_exc, kM2_ok, kM2_stuck, kM3_ok, kM3_exc, r_meth0, kN1_ok, kN1_exc, kN2_ok, kN2_stuck, r_make, kMake_ok, mkEnd_ok, r_cb, r_isi, r_bm, kBM1_ok, kBM2_ok, r_alt, kAlt_ok, kAlt_exc, kAlt_stuck,
  r_sl, kSl1_ok, kSl2_ok, kSl3_ok, r_ptN, r_ptS, optI_ok, r_nil, r_seq, kSeq_nx, kSeq_rt, kSeq_xc, kSeq_bk, kSeq_ct, r_clr, kClr_nx, kClr_rt, kClr_xc, kClr_bk, kClr_ct, clr_nil, clr_cons, r_set, kSet_ok, kSet_exc, r_expr, kExpr_ok, kExpr_exc, r_ret, kRet_ok, kRet_exc, r_retN, r_if, kSIf_t, kSIf_f, kSIf_exc, r_brk, r_cont, r_for, kFor_ok,
  kItA_ok, kIt_some, r_itL, r_itT, r_itS, r_itR1, r_itR2, r_itEn, r_asg, kAsg_ok, sTgO_some, tgM_nm, setAllM_nil, setAllM_cons, r_aug, kAug1_ok, kAug2_ok, r_fs, kFS1_ok, kFS2_ok, nxO_some, r_sl1, kSL1_ok, kSL2_ok, kSL3_ok, r_fnB, kFn_nx, kFn_rt, kFn_xc, r_lc, kLc_ok, r_yes, r_tgtp, kTg_ok, r_items, r_itemsT, kItems_ok, r_self, kSelf_ok, kSelf_no, ne_eq, reduceCtorEq, not_false_eq_true, r_isiR, kIsi_ok, r_ty, kTy_l, r_getF, kGetF_ok, kLk_ok, lk_yes, r_setF, r_itLl, kItL_ok, r_isL, kIsL_ok, r_lApp, kApp_ok, r_getI, kGetI_ok, r_getIT, r_setI, kSetI_ok, kStO_ok, r_while, r_bm0, kBM0_ok, r_lClear, kClear_ok, r_len, kLen_ok, len_tup, r_sl4, kSl4_ok, stepQ_nx, stepQ_ct, stepQ_bk, stepQ_rt, stepQ_xc,
  Res.bind_ok, Res.bind_exc, Res.bind_stuck,
  List.map_cons, List.map_nil, List.length_cons, List.length_nil, List.replicate_succ, List.replicate_zero, List.cons_append, List.nil_append, List.append_nil, List.set_cons_succ, List.set_cons_zero, List.getElem?_cons_succ, List.getElem?_cons_zero,
  Nat.reduceAdd, Nat.reduceSub, Nat.zero_add, Nat.sub_self, Bool.not_true, Bool.not_false, eq_self_iff_true, lstD_ok, Nat.zero_le, ← hS1, ← hS2, eq_str, we_pl, we_pa, tupD_ok, Nat.reduceLeDiff, pfx_get p02 hl, pfx_get p04 hl, pfx_get p05 hl, so_th, qf, th_words, qh, qv, al]
theorem right_pair {S : Sto} {l a b : Nat} {fz gz : Bool} {k v : D} (hl : S[l]? = some (.ins .Pair [(.row, .loc a)])) (ha : S[a]? = some (.lst fz [k, v])) (hb : S[b]? = some (.lst gz [k, v])) (hk : isField k) (hv : isField v) :
    ∃ S', f_law_right [.loc l, .str "pair", .loc b, .non] S = .ok (.bl true) S' ∧ S <+: S' := by
  obtain ⟨S1, hS1⟩ : ∃ S1, S1 = S ++ [O.lst false []] := ⟨_, rfl⟩
  obtain ⟨S2, hS2⟩ : ∃ S2, S2 = S1 ++ [O.lst false []] := ⟨_, rfl⟩
  have p1 : S <+: S1 := ⟨_, hS1.symm⟩
  have p2 : S1 <+: S2 := ⟨_, hS2.symm⟩
  have p02 := p1.trans p2
  obtain ⟨pk, ek, lk, sk⟩ := hk.ok
  obtain ⟨wp, ow, ol, os, lw⟩ : ∃ wp : List PyData, (∀ S n, optAll (pd S (n + 2)) (waitsOf k v) = some wp) ∧ PyData.canLayAll0 wp = true ∧ smallAll wp = true ∧ wp.length ≤ 100000 := by
    unfold waitsOf
    cases ht : isTh k with
    | false => exact ⟨[], fun _ _ => rfl, rfl, rfl, by decide⟩
    | true =>
      rcases hk with rfl | ⟨i, rfl⟩ | ⟨i, rfl⟩
      · simp only [isTh, th_n] at ht; cases ht
      · simp only [isTh, th_m] at ht; cases ht
      · obtain ⟨p, e, l, z⟩ := okf_pair (i := i) hv
        exact ⟨[p], fun S n => optAll_cons (e S n) rfl, by simp only [PyData.canLayAll0, l, Bool.and_self], by simp only [smallAll, z, Bool.and_self], by simp⟩
  have key : ∀ (S3 : Sto) (wl : Nat), S2 <+: S3 → S3[wl]? = some (.lst false (waitsOf k v)) → ∃ S', f_law_alike 8 [.tup [.str "pair", .loc S3.length, .non, .loc (S3.length + 1), .loc (S3.length + 2)], .tup [.str "pair", .loc b, .non, .loc S.length, .loc wl]] S' = .ok (.bl true) S' ∧ S' = S3 ++ [.lst false [k, v], .lst false [], .lst false (waitsOf k v)] := by
    intro S3 wl p3 hwl
    refine ⟨_, ?_, rfl⟩
    exact rows_alike (z := "pair") (w := .non) (fs := [k, v]) (hs := []) (ws := waitsOf k v) (wp := wp) (by decide +kernel) okf_non (fun x hx => by
      simp only [List.mem_cons, List.not_mem_nil, or_false] at hx
      rcases hx with rfl | rfl
      · exact hk.ok
      · exact hv.ok) (fun x hx => by cases hx) (by simp) (by decide) ow ol os lw
      (by rw [at_z]; rfl) (get_app (pfx_get (p02.trans p3) hb)) (by rw [at_k]; rfl) (get_app (pfx_get (p2.trans p3) (by rw [hS1]; exact get_last _ _))) (by rw [at_k]; rfl) (get_app hwl)
  have qt : ∀ (S3 : Sto), S2 <+: S3 → f_Thing_fields [.loc l] S3 = .ok (.loc S3.length) (S3 ++ [.lst false [k, v]]) ∧ f_Pair_waits [.loc l] (S3 ++ [.lst false [k, v]] ++ [.lst false []]) = .ok (.loc (S3.length + 2)) (S3 ++ [.lst false [k, v], .lst false [], .lst false (waitsOf k v)]) := by
    intro S3 p3
    refine ⟨fields_spec (pfx_get (p02.trans p3) hl) (pfx_get (p02.trans p3) ha), ?_⟩
    rw [pw_spec (get_app (get_app (pfx_get (p02.trans p3) hl))) (get_app (get_app (pfx_get (p02.trans p3) ha))) hk]
    simp
  have lenA : ∀ S3 : Sto, (S3 ++ [O.lst false [k, v]]).length = S3.length + 1 := by intro S3; simp
  have gA : ∀ S3 : Sto, S2 <+: S3 → ∀ T, (S3 ++ T)[l]? = some (.ins .Pair [(.row, .loc a)]) := fun S3 p3 T => get_app (pfx_get (p02.trans p3) hl)
  unfold f_law_right b_law_right
  cases ht : isTh k with
  | false =>
    have wn : waitsOf k v = [] := by simp [waitsOf, ht]
    obtain ⟨S', e1, e2⟩ := key S2 S1.length List.prefix_rfl (by rw [hS2, wn]; exact get_last _ _)
    obtain ⟨q1, q2⟩ := qt S2 List.prefix_rfl
    have tk : ∀ T, kOpA (getI k (.int 0) T) eqR (mC (.str "thing")) [some (.loc l), some (.str "pair"), some (.loc b), some .non, some (.loc S.length), some (.loc S1.length), none, none] = .ok (.bl false) T := by
      intro T
      rw [← ht]
      rcases hk with rfl | ⟨i, rfl⟩ | ⟨i, rfl⟩
      · simp -implicitDefEqProofs only [r_var, kVar_ok, r_c, r_op2, kOpA_ok, kOpA_exc, kOpB_ok, kOpB_exc, r_test, r_asB, r_and, r_or, r_not, kAnd_t, kAnd_f, kAnd_exc, kOr_t, kOr_f, kOr_exc, kNot_ok, kNot_exc, r_mand, r_mor, r_mnot, kMAnd_t, kMAnd_f, kMOr_t, kMOr_f, kMNot_ok, r_ife, kIfE_t, kIfE_f, kIfE_exc,
  r_anil, r_acons, kArg_ok, kArg_exc, kArgs_ok, kArgs_exc, r_tup, r_lst, r_fld, r_call, kCall_ok, kCall_exc, r_call0, noX_ok, r_meth, kM1_ok, kM1_exc, kM2_ok, kM2_stuck, kM3_ok, kM3_exc, r_meth0, kN1_ok, kN1_exc, kN2_ok, kN2_stuck, r_make, kMake_ok, mkEnd_ok, r_cb, r_isi, r_bm, kBM1_ok, kBM2_ok, r_alt, kAlt_ok, kAlt_exc, kAlt_stuck,
  r_sl, kSl1_ok, kSl2_ok, kSl3_ok, r_ptN, r_ptS, optI_ok, r_nil, r_seq, kSeq_nx, kSeq_rt, kSeq_xc, kSeq_bk, kSeq_ct, r_clr, kClr_nx, kClr_rt, kClr_xc, kClr_bk, kClr_ct, clr_nil, clr_cons, r_set, kSet_ok, kSet_exc, r_expr, kExpr_ok, kExpr_exc, r_ret, kRet_ok, kRet_exc, r_retN, r_if, kSIf_t, kSIf_f, kSIf_exc, r_brk, r_cont, r_for, kFor_ok,
  kItA_ok, kIt_some, r_itL, r_itT, r_itS, r_itR1, r_itR2, r_itEn, r_asg, kAsg_ok, sTgO_some, tgM_nm, setAllM_nil, setAllM_cons, r_aug, kAug1_ok, kAug2_ok, r_fs, kFS1_ok, kFS2_ok, nxO_some, r_sl1, kSL1_ok, kSL2_ok, kSL3_ok, r_fnB, kFn_nx, kFn_rt, kFn_xc, r_lc, kLc_ok, r_yes, r_tgtp, kTg_ok, r_items, r_itemsT, kItems_ok, r_self, kSelf_ok, kSelf_no, ne_eq, reduceCtorEq, not_false_eq_true, r_isiR, kIsi_ok, r_ty, kTy_l, r_getF, kGetF_ok, kLk_ok, lk_yes, r_setF, r_itLl, kItL_ok, r_isL, kIsL_ok, r_lApp, kApp_ok, r_getI, kGetI_ok, r_getIT, r_setI, kSetI_ok, kStO_ok, r_while, r_bm0, kBM0_ok, r_lClear, kClear_ok, r_len, kLen_ok, len_tup, r_sl4, kSl4_ok, stepQ_nx, stepQ_ct, stepQ_bk, stepQ_rt, stepQ_xc,
  Res.bind_ok, Res.bind_exc, Res.bind_stuck,
  List.map_cons, List.map_nil, List.length_cons, List.length_nil, List.replicate_succ, List.replicate_zero, List.cons_append, List.nil_append, List.append_nil, List.set_cons_succ, List.set_cons_zero, List.getElem?_cons_succ, List.getElem?_cons_zero,
  Nat.reduceAdd, Nat.reduceSub, Nat.zero_add, Nat.sub_self, Bool.not_true, Bool.not_false, eq_self_iff_true, a0_1, eq_str, isTh]
      · simp -implicitDefEqProofs only [r_var, kVar_ok, r_c, r_op2, kOpA_ok, kOpA_exc, kOpB_ok, kOpB_exc, r_test, r_asB, r_and, r_or, r_not, kAnd_t, kAnd_f, kAnd_exc, kOr_t, kOr_f, kOr_exc, kNot_ok, kNot_exc, r_mand, r_mor, r_mnot, kMAnd_t, kMAnd_f, kMOr_t, kMOr_f, kMNot_ok, r_ife, kIfE_t, kIfE_f, kIfE_exc,
  r_anil, r_acons, kArg_ok, kArg_exc, kArgs_ok, kArgs_exc, r_tup, r_lst, r_fld, r_call, kCall_ok, kCall_exc, r_call0, noX_ok, r_meth, kM1_ok, kM1_exc, kM2_ok, kM2_stuck, kM3_ok, kM3_exc, r_meth0, kN1_ok, kN1_exc, kN2_ok, kN2_stuck, r_make, kMake_ok, mkEnd_ok, r_cb, r_isi, r_bm, kBM1_ok, kBM2_ok, r_alt, kAlt_ok, kAlt_exc, kAlt_stuck,
  r_sl, kSl1_ok, kSl2_ok, kSl3_ok, r_ptN, r_ptS, optI_ok, r_nil, r_seq, kSeq_nx, kSeq_rt, kSeq_xc, kSeq_bk, kSeq_ct, r_clr, kClr_nx, kClr_rt, kClr_xc, kClr_bk, kClr_ct, clr_nil, clr_cons, r_set, kSet_ok, kSet_exc, r_expr, kExpr_ok, kExpr_exc, r_ret, kRet_ok, kRet_exc, r_retN, r_if, kSIf_t, kSIf_f, kSIf_exc, r_brk, r_cont, r_for, kFor_ok,
  kItA_ok, kIt_some, r_itL, r_itT, r_itS, r_itR1, r_itR2, r_itEn, r_asg, kAsg_ok, sTgO_some, tgM_nm, setAllM_nil, setAllM_cons, r_aug, kAug1_ok, kAug2_ok, r_fs, kFS1_ok, kFS2_ok, nxO_some, r_sl1, kSL1_ok, kSL2_ok, kSL3_ok, r_fnB, kFn_nx, kFn_rt, kFn_xc, r_lc, kLc_ok, r_yes, r_tgtp, kTg_ok, r_items, r_itemsT, kItems_ok, r_self, kSelf_ok, kSelf_no, ne_eq, reduceCtorEq, not_false_eq_true, r_isiR, kIsi_ok, r_ty, kTy_l, r_getF, kGetF_ok, kLk_ok, lk_yes, r_setF, r_itLl, kItL_ok, r_isL, kIsL_ok, r_lApp, kApp_ok, r_getI, kGetI_ok, r_getIT, r_setI, kSetI_ok, kStO_ok, r_while, r_bm0, kBM0_ok, r_lClear, kClear_ok, r_len, kLen_ok, len_tup, r_sl4, kSl4_ok, stepQ_nx, stepQ_ct, stepQ_bk, stepQ_rt, stepQ_xc,
  Res.bind_ok, Res.bind_exc, Res.bind_stuck,
  List.map_cons, List.map_nil, List.length_cons, List.length_nil, List.replicate_succ, List.replicate_zero, List.cons_append, List.nil_append, List.append_nil, List.set_cons_succ, List.set_cons_zero, List.getElem?_cons_succ, List.getElem?_cons_zero,
  Nat.reduceAdd, Nat.reduceSub, Nat.zero_add, Nat.sub_self, Bool.not_true, Bool.not_false, eq_self_iff_true, a0_2, eq_str, isTh]
      · simp -implicitDefEqProofs only [r_var, kVar_ok, r_c, r_op2, kOpA_ok, kOpA_exc, kOpB_ok, kOpB_exc, r_test, r_asB, r_and, r_or, r_not, kAnd_t, kAnd_f, kAnd_exc, kOr_t, kOr_f, kOr_exc, kNot_ok, kNot_exc, r_mand, r_mor, r_mnot, kMAnd_t, kMAnd_f, kMOr_t, kMOr_f, kMNot_ok, r_ife, kIfE_t, kIfE_f, kIfE_exc,
  r_anil, r_acons, kArg_ok, kArg_exc, kArgs_ok, kArgs_exc, r_tup, r_lst, r_fld, r_call, kCall_ok, kCall_exc, r_call0, noX_ok, r_meth, kM1_ok, kM1_exc, kM2_ok, kM2_stuck, kM3_ok, kM3_exc, r_meth0, kN1_ok, kN1_exc, kN2_ok, kN2_stuck, r_make, kMake_ok, mkEnd_ok, r_cb, r_isi, r_bm, kBM1_ok, kBM2_ok, r_alt, kAlt_ok, kAlt_exc, kAlt_stuck,
  r_sl, kSl1_ok, kSl2_ok, kSl3_ok, r_ptN, r_ptS, optI_ok, r_nil, r_seq, kSeq_nx, kSeq_rt, kSeq_xc, kSeq_bk, kSeq_ct, r_clr, kClr_nx, kClr_rt, kClr_xc, kClr_bk, kClr_ct, clr_nil, clr_cons, r_set, kSet_ok, kSet_exc, r_expr, kExpr_ok, kExpr_exc, r_ret, kRet_ok, kRet_exc, r_retN, r_if, kSIf_t, kSIf_f, kSIf_exc, r_brk, r_cont, r_for, kFor_ok,
  kItA_ok, kIt_some, r_itL, r_itT, r_itS, r_itR1, r_itR2, r_itEn, r_asg, kAsg_ok, sTgO_some, tgM_nm, setAllM_nil, setAllM_cons, r_aug, kAug1_ok, kAug2_ok, r_fs, kFS1_ok, kFS2_ok, nxO_some, r_sl1, kSL1_ok, kSL2_ok, kSL3_ok, r_fnB, kFn_nx, kFn_rt, kFn_xc, r_lc, kLc_ok, r_yes, r_tgtp, kTg_ok, r_items, r_itemsT, kItems_ok, r_self, kSelf_ok, kSelf_no, ne_eq, reduceCtorEq, not_false_eq_true, r_isiR, kIsi_ok, r_ty, kTy_l, r_getF, kGetF_ok, kLk_ok, lk_yes, r_setF, r_itLl, kItL_ok, r_isL, kIsL_ok, r_lApp, kApp_ok, r_getI, kGetI_ok, r_getIT, r_setI, kSetI_ok, kStO_ok, r_while, r_bm0, kBM0_ok, r_lClear, kClear_ok, r_len, kLen_ok, len_tup, r_sl4, kSl4_ok, stepQ_nx, stepQ_ct, stepQ_bk, stepQ_rt, stepQ_xc,
  Res.bind_ok, Res.bind_exc, Res.bind_stuck,
  List.map_cons, List.map_nil, List.length_cons, List.length_nil, List.replicate_succ, List.replicate_zero, List.cons_append, List.nil_append, List.append_nil, List.set_cons_succ, List.set_cons_zero, List.getElem?_cons_succ, List.getElem?_cons_zero,
  Nat.reduceAdd, Nat.reduceSub, Nat.zero_add, Nat.sub_self, Bool.not_true, Bool.not_false, eq_self_iff_true, a0_2, eq_str, isTh]
    refine ⟨S', ?_, by rw [e2]; exact pfx_app p02⟩
    rw [← e2] at q2
    simp -implicitDefEqProofs only [r_var, kVar_ok, r_c, r_op2, kOpA_ok, kOpA_exc, kOpB_ok, kOpB_exc, r_test, r_asB, r_and, r_or, r_not, kAnd_t, kAnd_f, kAnd_exc, kOr_t, kOr_f, kOr_exc, kNot_ok, kNot_exc, r_mand, r_mor, r_mnot, kMAnd_t, kMAnd_f, kMOr_t, kMOr_f, kMNot_ok, r_ife, kIfE_t, kIfE_f, kIfE_exc,
  r_anil, r_acons, kArg_ok, kArg_exc, kArgs_ok, kArgs_exc, r_tup, r_lst, r_fld, r_call, kCall_ok, kCall_exc, r_call0, noX_ok, r_meth, kM1_ok, kM1_exc, kM2_ok, kM2_stuck, kM3_ok, kM3_exc, r_meth0, kN1_ok, kN1_exc, kN2_ok, kN2_stuck, r_make, kMake_ok, mkEnd_ok, r_cb, r_isi, r_bm, kBM1_ok, kBM2_ok, r_alt, kAlt_ok, kAlt_exc, kAlt_stuck,
  r_sl, kSl1_ok, kSl2_ok, kSl3_ok, r_ptN, r_ptS, optI_ok, r_nil, r_seq, kSeq_nx, kSeq_rt, kSeq_xc, kSeq_bk, kSeq_ct, r_clr, kClr_nx, kClr_rt, kClr_xc, kClr_bk, kClr_ct, clr_nil, clr_cons, r_set, kSet_ok, kSet_exc, r_expr, kExpr_ok, kExpr_exc, r_ret, kRet_ok, kRet_exc, r_retN, r_if, kSIf_t, kSIf_f, kSIf_exc, r_brk, r_cont, r_for, kFor_ok,
  kItA_ok, kIt_some, r_itL, r_itT, r_itS, r_itR1, r_itR2, r_itEn, r_asg, kAsg_ok, sTgO_some, tgM_nm, setAllM_nil, setAllM_cons, r_aug, kAug1_ok, kAug2_ok, r_fs, kFS1_ok, kFS2_ok, nxO_some, r_sl1, kSL1_ok, kSL2_ok, kSL3_ok, r_fnB, kFn_nx, kFn_rt, kFn_xc, r_lc, kLc_ok, r_yes, r_tgtp, kTg_ok, r_items, r_itemsT, kItems_ok, r_self, kSelf_ok, kSelf_no, ne_eq, reduceCtorEq, not_false_eq_true, r_isiR, kIsi_ok, r_ty, kTy_l, r_getF, kGetF_ok, kLk_ok, lk_yes, r_setF, r_itLl, kItL_ok, r_isL, kIsL_ok, r_lApp, kApp_ok, r_getI, kGetI_ok, r_getIT, r_setI, kSetI_ok, kStO_ok, r_while, r_bm0, kBM0_ok, r_lClear, kClear_ok, r_len, kLen_ok, len_tup, r_sl4, kSl4_ok, stepQ_nx, stepQ_ct, stepQ_bk, stepQ_rt, stepQ_xc,
  Res.bind_ok, Res.bind_exc, Res.bind_stuck,
  List.map_cons, List.map_nil, List.length_cons, List.length_nil, List.replicate_succ, List.replicate_zero, List.cons_append, List.nil_append, List.append_nil, List.set_cons_succ, List.set_cons_zero, List.getElem?_cons_succ, List.getElem?_cons_zero,
  Nat.reduceAdd, Nat.reduceSub, Nat.zero_add, Nat.sub_self, Bool.not_true, Bool.not_false, eq_self_iff_true, lstD_ok, Nat.zero_le, ← hS1, ← hS2, eq_str, pa_pl, decide_true, pfx_get p02 hb, a0_2, tk, tupD_ok, Nat.reduceLeDiff, pfx_get p02 hl, so_pa, q1, gA S2 List.prefix_rfl, th_words, th_holds, lenA, List.append_assoc]
    simp only [List.append_assoc, List.cons_append, List.nil_append] at q2
    simp -implicitDefEqProofs only [r_var, kVar_ok, r_c, r_op2, kOpA_ok, kOpA_exc, kOpB_ok, kOpB_exc, r_test, r_asB, r_and, r_or, r_not, kAnd_t, kAnd_f, kAnd_exc, kOr_t, kOr_f, kOr_exc, kNot_ok, kNot_exc, r_mand, r_mor, r_mnot, kMAnd_t, kMAnd_f, kMOr_t, kMOr_f, kMNot_ok, r_ife, kIfE_t, kIfE_f, kIfE_exc,
  r_anil, r_acons, kArg_ok, kArg_exc, kArgs_ok, kArgs_exc, r_tup, r_lst, r_fld, r_call, kCall_ok, kCall_exc, r_call0, noX_ok, r_meth, kM1_ok, kM1_exc, kM2_ok, kM2_stuck, kM3_ok, kM3_exc, r_meth0, kN1_ok, kN1_exc, kN2_ok, kN2_stuck, r_make, kMake_ok, mkEnd_ok, r_cb, r_isi, r_bm, kBM1_ok, kBM2_ok, r_alt, kAlt_ok, kAlt_exc, kAlt_stuck,
  r_sl, kSl1_ok, kSl2_ok, kSl3_ok, r_ptN, r_ptS, optI_ok, r_nil, r_seq, kSeq_nx, kSeq_rt, kSeq_xc, kSeq_bk, kSeq_ct, r_clr, kClr_nx, kClr_rt, kClr_xc, kClr_bk, kClr_ct, clr_nil, clr_cons, r_set, kSet_ok, kSet_exc, r_expr, kExpr_ok, kExpr_exc, r_ret, kRet_ok, kRet_exc, r_retN, r_if, kSIf_t, kSIf_f, kSIf_exc, r_brk, r_cont, r_for, kFor_ok,
  kItA_ok, kIt_some, r_itL, r_itT, r_itS, r_itR1, r_itR2, r_itEn, r_asg, kAsg_ok, sTgO_some, tgM_nm, setAllM_nil, setAllM_cons, r_aug, kAug1_ok, kAug2_ok, r_fs, kFS1_ok, kFS2_ok, nxO_some, r_sl1, kSL1_ok, kSL2_ok, kSL3_ok, r_fnB, kFn_nx, kFn_rt, kFn_xc, r_lc, kLc_ok, r_yes, r_tgtp, kTg_ok, r_items, r_itemsT, kItems_ok, r_self, kSelf_ok, kSelf_no, ne_eq, reduceCtorEq, not_false_eq_true, r_isiR, kIsi_ok, r_ty, kTy_l, r_getF, kGetF_ok, kLk_ok, lk_yes, r_setF, r_itLl, kItL_ok, r_isL, kIsL_ok, r_lApp, kApp_ok, r_getI, kGetI_ok, r_getIT, r_setI, kSetI_ok, kStO_ok, r_while, r_bm0, kBM0_ok, r_lClear, kClear_ok, r_len, kLen_ok, len_tup, r_sl4, kSl4_ok, stepQ_nx, stepQ_ct, stepQ_bk, stepQ_rt, stepQ_xc,
  Res.bind_ok, Res.bind_exc, Res.bind_stuck,
  List.map_cons, List.map_nil, List.length_cons, List.length_nil, List.replicate_succ, List.replicate_zero, List.cons_append, List.nil_append, List.append_nil, List.set_cons_succ, List.set_cons_zero, List.getElem?_cons_succ, List.getElem?_cons_zero,
  Nat.reduceAdd, Nat.reduceSub, Nat.zero_add, Nat.sub_self, Bool.not_true, Bool.not_false, eq_self_iff_true, q2, tupD_ok, Nat.reduceLeDiff, e1]
  | true =>
    have wn : waitsOf k v = [.tup [idx k, v]] := by simp [waitsOf, ht]
    obtain ⟨S3, hS3⟩ : ∃ S3, S3 = S2 ++ [O.lst false [.tup [idx k, v]]] := ⟨_, rfl⟩
    have p3 : S2 <+: S3 := ⟨_, hS3.symm⟩
    obtain ⟨S', e1, e2⟩ := key S3 S2.length p3 (by rw [hS3, wn]; exact get_last _ _)
    obtain ⟨q1, q2⟩ := qt S3 p3
    have tk : ∀ T, kOpA (getI k (.int 0) T) eqR (mC (.str "thing")) [some (.loc l), some (.str "pair"), some (.loc b), some .non, some (.loc S.length), some (.loc S1.length), none, none] = .ok (.bl true) T := by
      intro T
      rw [← ht]
      rcases hk with rfl | ⟨i, rfl⟩ | ⟨i, rfl⟩
      · simp -implicitDefEqProofs only [r_var, kVar_ok, r_c, r_op2, kOpA_ok, kOpA_exc, kOpB_ok, kOpB_exc, r_test, r_asB, r_and, r_or, r_not, kAnd_t, kAnd_f, kAnd_exc, kOr_t, kOr_f, kOr_exc, kNot_ok, kNot_exc, r_mand, r_mor, r_mnot, kMAnd_t, kMAnd_f, kMOr_t, kMOr_f, kMNot_ok, r_ife, kIfE_t, kIfE_f, kIfE_exc,
  r_anil, r_acons, kArg_ok, kArg_exc, kArgs_ok, kArgs_exc, r_tup, r_lst, r_fld, r_call, kCall_ok, kCall_exc, r_call0, noX_ok, r_meth, kM1_ok, kM1_exc, kM2_ok, kM2_stuck, kM3_ok, kM3_exc, r_meth0, kN1_ok, kN1_exc, kN2_ok, kN2_stuck, r_make, kMake_ok, mkEnd_ok, r_cb, r_isi, r_bm, kBM1_ok, kBM2_ok, r_alt, kAlt_ok, kAlt_exc, kAlt_stuck,
  r_sl, kSl1_ok, kSl2_ok, kSl3_ok, r_ptN, r_ptS, optI_ok, r_nil, r_seq, kSeq_nx, kSeq_rt, kSeq_xc, kSeq_bk, kSeq_ct, r_clr, kClr_nx, kClr_rt, kClr_xc, kClr_bk, kClr_ct, clr_nil, clr_cons, r_set, kSet_ok, kSet_exc, r_expr, kExpr_ok, kExpr_exc, r_ret, kRet_ok, kRet_exc, r_retN, r_if, kSIf_t, kSIf_f, kSIf_exc, r_brk, r_cont, r_for, kFor_ok,
  kItA_ok, kIt_some, r_itL, r_itT, r_itS, r_itR1, r_itR2, r_itEn, r_asg, kAsg_ok, sTgO_some, tgM_nm, setAllM_nil, setAllM_cons, r_aug, kAug1_ok, kAug2_ok, r_fs, kFS1_ok, kFS2_ok, nxO_some, r_sl1, kSL1_ok, kSL2_ok, kSL3_ok, r_fnB, kFn_nx, kFn_rt, kFn_xc, r_lc, kLc_ok, r_yes, r_tgtp, kTg_ok, r_items, r_itemsT, kItems_ok, r_self, kSelf_ok, kSelf_no, ne_eq, reduceCtorEq, not_false_eq_true, r_isiR, kIsi_ok, r_ty, kTy_l, r_getF, kGetF_ok, kLk_ok, lk_yes, r_setF, r_itLl, kItL_ok, r_isL, kIsL_ok, r_lApp, kApp_ok, r_getI, kGetI_ok, r_getIT, r_setI, kSetI_ok, kStO_ok, r_while, r_bm0, kBM0_ok, r_lClear, kClear_ok, r_len, kLen_ok, len_tup, r_sl4, kSl4_ok, stepQ_nx, stepQ_ct, stepQ_bk, stepQ_rt, stepQ_xc,
  Res.bind_ok, Res.bind_exc, Res.bind_stuck,
  List.map_cons, List.map_nil, List.length_cons, List.length_nil, List.replicate_succ, List.replicate_zero, List.cons_append, List.nil_append, List.append_nil, List.set_cons_succ, List.set_cons_zero, List.getElem?_cons_succ, List.getElem?_cons_zero,
  Nat.reduceAdd, Nat.reduceSub, Nat.zero_add, Nat.sub_self, Bool.not_true, Bool.not_false, eq_self_iff_true, a0_1, eq_str, isTh]
      · simp -implicitDefEqProofs only [r_var, kVar_ok, r_c, r_op2, kOpA_ok, kOpA_exc, kOpB_ok, kOpB_exc, r_test, r_asB, r_and, r_or, r_not, kAnd_t, kAnd_f, kAnd_exc, kOr_t, kOr_f, kOr_exc, kNot_ok, kNot_exc, r_mand, r_mor, r_mnot, kMAnd_t, kMAnd_f, kMOr_t, kMOr_f, kMNot_ok, r_ife, kIfE_t, kIfE_f, kIfE_exc,
  r_anil, r_acons, kArg_ok, kArg_exc, kArgs_ok, kArgs_exc, r_tup, r_lst, r_fld, r_call, kCall_ok, kCall_exc, r_call0, noX_ok, r_meth, kM1_ok, kM1_exc, kM2_ok, kM2_stuck, kM3_ok, kM3_exc, r_meth0, kN1_ok, kN1_exc, kN2_ok, kN2_stuck, r_make, kMake_ok, mkEnd_ok, r_cb, r_isi, r_bm, kBM1_ok, kBM2_ok, r_alt, kAlt_ok, kAlt_exc, kAlt_stuck,
  r_sl, kSl1_ok, kSl2_ok, kSl3_ok, r_ptN, r_ptS, optI_ok, r_nil, r_seq, kSeq_nx, kSeq_rt, kSeq_xc, kSeq_bk, kSeq_ct, r_clr, kClr_nx, kClr_rt, kClr_xc, kClr_bk, kClr_ct, clr_nil, clr_cons, r_set, kSet_ok, kSet_exc, r_expr, kExpr_ok, kExpr_exc, r_ret, kRet_ok, kRet_exc, r_retN, r_if, kSIf_t, kSIf_f, kSIf_exc, r_brk, r_cont, r_for, kFor_ok,
  kItA_ok, kIt_some, r_itL, r_itT, r_itS, r_itR1, r_itR2, r_itEn, r_asg, kAsg_ok, sTgO_some, tgM_nm, setAllM_nil, setAllM_cons, r_aug, kAug1_ok, kAug2_ok, r_fs, kFS1_ok, kFS2_ok, nxO_some, r_sl1, kSL1_ok, kSL2_ok, kSL3_ok, r_fnB, kFn_nx, kFn_rt, kFn_xc, r_lc, kLc_ok, r_yes, r_tgtp, kTg_ok, r_items, r_itemsT, kItems_ok, r_self, kSelf_ok, kSelf_no, ne_eq, reduceCtorEq, not_false_eq_true, r_isiR, kIsi_ok, r_ty, kTy_l, r_getF, kGetF_ok, kLk_ok, lk_yes, r_setF, r_itLl, kItL_ok, r_isL, kIsL_ok, r_lApp, kApp_ok, r_getI, kGetI_ok, r_getIT, r_setI, kSetI_ok, kStO_ok, r_while, r_bm0, kBM0_ok, r_lClear, kClear_ok, r_len, kLen_ok, len_tup, r_sl4, kSl4_ok, stepQ_nx, stepQ_ct, stepQ_bk, stepQ_rt, stepQ_xc,
  Res.bind_ok, Res.bind_exc, Res.bind_stuck,
  List.map_cons, List.map_nil, List.length_cons, List.length_nil, List.replicate_succ, List.replicate_zero, List.cons_append, List.nil_append, List.append_nil, List.set_cons_succ, List.set_cons_zero, List.getElem?_cons_succ, List.getElem?_cons_zero,
  Nat.reduceAdd, Nat.reduceSub, Nat.zero_add, Nat.sub_self, Bool.not_true, Bool.not_false, eq_self_iff_true, a0_2, eq_str, isTh]
      · simp -implicitDefEqProofs only [r_var, kVar_ok, r_c, r_op2, kOpA_ok, kOpA_exc, kOpB_ok, kOpB_exc, r_test, r_asB, r_and, r_or, r_not, kAnd_t, kAnd_f, kAnd_exc, kOr_t, kOr_f, kOr_exc, kNot_ok, kNot_exc, r_mand, r_mor, r_mnot, kMAnd_t, kMAnd_f, kMOr_t, kMOr_f, kMNot_ok, r_ife, kIfE_t, kIfE_f, kIfE_exc,
  r_anil, r_acons, kArg_ok, kArg_exc, kArgs_ok, kArgs_exc, r_tup, r_lst, r_fld, r_call, kCall_ok, kCall_exc, r_call0, noX_ok, r_meth, kM1_ok, kM1_exc, kM2_ok, kM2_stuck, kM3_ok, kM3_exc, r_meth0, kN1_ok, kN1_exc, kN2_ok, kN2_stuck, r_make, kMake_ok, mkEnd_ok, r_cb, r_isi, r_bm, kBM1_ok, kBM2_ok, r_alt, kAlt_ok, kAlt_exc, kAlt_stuck,
  r_sl, kSl1_ok, kSl2_ok, kSl3_ok, r_ptN, r_ptS, optI_ok, r_nil, r_seq, kSeq_nx, kSeq_rt, kSeq_xc, kSeq_bk, kSeq_ct, r_clr, kClr_nx, kClr_rt, kClr_xc, kClr_bk, kClr_ct, clr_nil, clr_cons, r_set, kSet_ok, kSet_exc, r_expr, kExpr_ok, kExpr_exc, r_ret, kRet_ok, kRet_exc, r_retN, r_if, kSIf_t, kSIf_f, kSIf_exc, r_brk, r_cont, r_for, kFor_ok,
  kItA_ok, kIt_some, r_itL, r_itT, r_itS, r_itR1, r_itR2, r_itEn, r_asg, kAsg_ok, sTgO_some, tgM_nm, setAllM_nil, setAllM_cons, r_aug, kAug1_ok, kAug2_ok, r_fs, kFS1_ok, kFS2_ok, nxO_some, r_sl1, kSL1_ok, kSL2_ok, kSL3_ok, r_fnB, kFn_nx, kFn_rt, kFn_xc, r_lc, kLc_ok, r_yes, r_tgtp, kTg_ok, r_items, r_itemsT, kItems_ok, r_self, kSelf_ok, kSelf_no, ne_eq, reduceCtorEq, not_false_eq_true, r_isiR, kIsi_ok, r_ty, kTy_l, r_getF, kGetF_ok, kLk_ok, lk_yes, r_setF, r_itLl, kItL_ok, r_isL, kIsL_ok, r_lApp, kApp_ok, r_getI, kGetI_ok, r_getIT, r_setI, kSetI_ok, kStO_ok, r_while, r_bm0, kBM0_ok, r_lClear, kClear_ok, r_len, kLen_ok, len_tup, r_sl4, kSl4_ok, stepQ_nx, stepQ_ct, stepQ_bk, stepQ_rt, stepQ_xc,
  Res.bind_ok, Res.bind_exc, Res.bind_stuck,
  List.map_cons, List.map_nil, List.length_cons, List.length_nil, List.replicate_succ, List.replicate_zero, List.cons_append, List.nil_append, List.append_nil, List.set_cons_succ, List.set_cons_zero, List.getElem?_cons_succ, List.getElem?_cons_zero,
  Nat.reduceAdd, Nat.reduceSub, Nat.zero_add, Nat.sub_self, Bool.not_true, Bool.not_false, eq_self_iff_true, a0_2, eq_str, isTh]
    refine ⟨S', ?_, by rw [e2]; exact pfx_app (p02.trans p3)⟩
    rw [← e2] at q2
    simp -implicitDefEqProofs only [r_var, kVar_ok, r_c, r_op2, kOpA_ok, kOpA_exc, kOpB_ok, kOpB_exc, r_test, r_asB, r_and, r_or, r_not, kAnd_t, kAnd_f, kAnd_exc, kOr_t, kOr_f, kOr_exc, kNot_ok, kNot_exc, r_mand, r_mor, r_mnot, kMAnd_t, kMAnd_f, kMOr_t, kMOr_f, kMNot_ok, r_ife, kIfE_t, kIfE_f, kIfE_exc,
  r_anil, r_acons, kArg_ok, kArg_exc, kArgs_ok, kArgs_exc, r_tup, r_lst, r_fld, r_call, kCall_ok, kCall_exc, r_call0, noX_ok, r_meth, kM1_ok, kM1_exc, kM2_ok, kM2_stuck, kM3_ok, kM3_exc, r_meth0, kN1_ok, kN1_exc, kN2_ok, kN2_stuck, r_make, kMake_ok, mkEnd_ok, r_cb, r_isi, r_bm, kBM1_ok, kBM2_ok, r_alt, kAlt_ok, kAlt_exc, kAlt_stuck,
  r_sl, kSl1_ok, kSl2_ok, kSl3_ok, r_ptN, r_ptS, optI_ok, r_nil, r_seq, kSeq_nx, kSeq_rt, kSeq_xc, kSeq_bk, kSeq_ct, r_clr, kClr_nx, kClr_rt, kClr_xc, kClr_bk, kClr_ct, clr_nil, clr_cons, r_set, kSet_ok, kSet_exc, r_expr, kExpr_ok, kExpr_exc, r_ret, kRet_ok, kRet_exc, r_retN, r_if, kSIf_t, kSIf_f, kSIf_exc, r_brk, r_cont, r_for, kFor_ok,
  kItA_ok, kIt_some, r_itL, r_itT, r_itS, r_itR1, r_itR2, r_itEn, r_asg, kAsg_ok, sTgO_some, tgM_nm, setAllM_nil, setAllM_cons, r_aug, kAug1_ok, kAug2_ok, r_fs, kFS1_ok, kFS2_ok, nxO_some, r_sl1, kSL1_ok, kSL2_ok, kSL3_ok, r_fnB, kFn_nx, kFn_rt, kFn_xc, r_lc, kLc_ok, r_yes, r_tgtp, kTg_ok, r_items, r_itemsT, kItems_ok, r_self, kSelf_ok, kSelf_no, ne_eq, reduceCtorEq, not_false_eq_true, r_isiR, kIsi_ok, r_ty, kTy_l, r_getF, kGetF_ok, kLk_ok, lk_yes, r_setF, r_itLl, kItL_ok, r_isL, kIsL_ok, r_lApp, kApp_ok, r_getI, kGetI_ok, r_getIT, r_setI, kSetI_ok, kStO_ok, r_while, r_bm0, kBM0_ok, r_lClear, kClear_ok, r_len, kLen_ok, len_tup, r_sl4, kSl4_ok, stepQ_nx, stepQ_ct, stepQ_bk, stepQ_rt, stepQ_xc,
  Res.bind_ok, Res.bind_exc, Res.bind_stuck,
  List.map_cons, List.map_nil, List.length_cons, List.length_nil, List.replicate_succ, List.replicate_zero, List.cons_append, List.nil_append, List.append_nil, List.set_cons_succ, List.set_cons_zero, List.getElem?_cons_succ, List.getElem?_cons_zero,
  Nat.reduceAdd, Nat.reduceSub, Nat.zero_add, Nat.sub_self, Bool.not_true, Bool.not_false, eq_self_iff_true, lstD_ok, Nat.zero_le, ← hS1, ← hS2, eq_str, pa_pl, decide_true, pfx_get p02 hb, a0_2, a1_2, tk, (idx_spec hk ht _).1, tupD_ok, Nat.reduceLeDiff, ← hS3, pfx_get (p02.trans p3) hl, so_pa, q1, gA S3 p3, th_words, th_holds, lenA, List.append_assoc]
    simp only [List.append_assoc, List.cons_append, List.nil_append] at q2
    simp -implicitDefEqProofs only [r_var, kVar_ok, r_c, r_op2, kOpA_ok, kOpA_exc, kOpB_ok, kOpB_exc, r_test, r_asB, r_and, r_or, r_not, kAnd_t, kAnd_f, kAnd_exc, kOr_t, kOr_f, kOr_exc, kNot_ok, kNot_exc, r_mand, r_mor, r_mnot, kMAnd_t, kMAnd_f, kMOr_t, kMOr_f, kMNot_ok, r_ife, kIfE_t, kIfE_f, kIfE_exc,
  r_anil, r_acons, kArg_ok, kArg_exc, kArgs_ok, kArgs_exc, r_tup, r_lst, r_fld, r_call, kCall_ok, kCall_exc, r_call0, noX_ok, r_meth, kM1_ok, kM1_exc, kM2_ok, kM2_stuck, kM3_ok, kM3_exc, r_meth0, kN1_ok, kN1_exc, kN2_ok, kN2_stuck, r_make, kMake_ok, mkEnd_ok, r_cb, r_isi, r_bm, kBM1_ok, kBM2_ok, r_alt, kAlt_ok, kAlt_exc, kAlt_stuck,
  r_sl, kSl1_ok, kSl2_ok, kSl3_ok, r_ptN, r_ptS, optI_ok, r_nil, r_seq, kSeq_nx, kSeq_rt, kSeq_xc, kSeq_bk, kSeq_ct, r_clr, kClr_nx, kClr_rt, kClr_xc, kClr_bk, kClr_ct, clr_nil, clr_cons, r_set, kSet_ok, kSet_exc, r_expr, kExpr_ok, kExpr_exc, r_ret, kRet_ok, kRet_exc, r_retN, r_if, kSIf_t, kSIf_f, kSIf_exc, r_brk, r_cont, r_for, kFor_ok,
  kItA_ok, kIt_some, r_itL, r_itT, r_itS, r_itR1, r_itR2, r_itEn, r_asg, kAsg_ok, sTgO_some, tgM_nm, setAllM_nil, setAllM_cons, r_aug, kAug1_ok, kAug2_ok, r_fs, kFS1_ok, kFS2_ok, nxO_some, r_sl1, kSL1_ok, kSL2_ok, kSL3_ok, r_fnB, kFn_nx, kFn_rt, kFn_xc, r_lc, kLc_ok, r_yes, r_tgtp, kTg_ok, r_items, r_itemsT, kItems_ok, r_self, kSelf_ok, kSelf_no, ne_eq, reduceCtorEq, not_false_eq_true, r_isiR, kIsi_ok, r_ty, kTy_l, r_getF, kGetF_ok, kLk_ok, lk_yes, r_setF, r_itLl, kItL_ok, r_isL, kIsL_ok, r_lApp, kApp_ok, r_getI, kGetI_ok, r_getIT, r_setI, kSetI_ok, kStO_ok, r_while, r_bm0, kBM0_ok, r_lClear, kClear_ok, r_len, kLen_ok, len_tup, r_sl4, kSl4_ok, stepQ_nx, stepQ_ct, stepQ_bk, stepQ_rt, stepQ_xc,
  Res.bind_ok, Res.bind_exc, Res.bind_stuck,
  List.map_cons, List.map_nil, List.length_cons, List.length_nil, List.replicate_succ, List.replicate_zero, List.cons_append, List.nil_append, List.append_nil, List.set_cons_succ, List.set_cons_zero, List.getElem?_cons_succ, List.getElem?_cons_zero,
  Nat.reduceAdd, Nat.reduceSub, Nat.zero_add, Nat.sub_self, Bool.not_true, Bool.not_false, eq_self_iff_true, q2, tupD_ok, Nat.reduceLeDiff, e1]

/-! ### the law's own -/
theorem p60 : ∃ B : Int, 0 < B ∧ ∀ S, intOp powI (.int 10) (.int 60) S = .ok (.int B) S := ⟨10 ^ (60 : Int).toNat, by decide, fun S => pow_int (by decide)⟩
theorem value_by_spec {n : Int} (hn : n.natAbs < 2 ^ 1048580) (S : Sto) : ∃ v T, isField v ∧ f_law_value_by [.int n] S = .ok v (S ++ T) := by
  obtain ⟨B, B0, hB⟩ := p60
  unfold f_law_value_by b_law_value_by
  have m3 := fun S => mod_int (S := S) (i := n) (j := 3) (by decide)
  by_cases h : n % 3 = 0
  · have d1 : decide (n % 3 = 0) = true := decide_eq_true h
    simp -implicitDefEqProofs only [r_var, kVar_ok, r_c, r_op2, kOpA_ok, kOpA_exc, kOpB_ok, kOpB_exc, r_test, r_asB, r_and, r_or, r_not, kAnd_t, kAnd_f, kAnd_exc, kOr_t, kOr_f, kOr_exc, kNot_ok, kNot_exc, r_mand, r_mor, r_mnot, kMAnd_t, kMAnd_f, kMOr_t, kMOr_f, kMNot_ok, r_ife, kIfE_t, kIfE_f, kIfE_exc,
  r_anil, r_acons, kArg_ok, kArg_exc, kArgs_ok, kArgs_exc, r_tup, r_lst, r_fld, r_call, kCall_ok, kCall_exc, r_call0, noX_ok, r_meth, kM1_ok, kM1_exc, kM2_ok, kM2_stuck, kM3_ok, kM3_exc, r_meth0, kN1_ok, kN1_exc, kN2_ok, kN2_stuck, r_make, kMake_ok, mkEnd_ok, r_cb, r_isi, r_bm, kBM1_ok, kBM2_ok, r_alt, kAlt_ok, kAlt_exc, kAlt_stuck,
  r_sl, kSl1_ok, kSl2_ok, kSl3_ok, r_ptN, r_ptS, optI_ok, r_nil, r_seq, kSeq_nx, kSeq_rt, kSeq_xc, kSeq_bk, kSeq_ct, r_clr, kClr_nx, kClr_rt, kClr_xc, kClr_bk, kClr_ct, clr_nil, clr_cons, r_set, kSet_ok, kSet_exc, r_expr, kExpr_ok, kExpr_exc, r_ret, kRet_ok, kRet_exc, r_retN, r_if, kSIf_t, kSIf_f, kSIf_exc, r_brk, r_cont, r_for, kFor_ok,
  kItA_ok, kIt_some, r_itL, r_itT, r_itS, r_itR1, r_itR2, r_itEn, r_asg, kAsg_ok, sTgO_some, tgM_nm, setAllM_nil, setAllM_cons, r_aug, kAug1_ok, kAug2_ok, r_fs, kFS1_ok, kFS2_ok, nxO_some, r_sl1, kSL1_ok, kSL2_ok, kSL3_ok, r_fnB, kFn_nx, kFn_rt, kFn_xc, r_lc, kLc_ok, r_yes, r_tgtp, kTg_ok, r_items, r_itemsT, kItems_ok, r_self, kSelf_ok, kSelf_no, ne_eq, reduceCtorEq, not_false_eq_true, r_isiR, kIsi_ok, r_ty, kTy_l, r_getF, kGetF_ok, kLk_ok, lk_yes, r_setF, r_itLl, kItL_ok, r_isL, kIsL_ok, r_lApp, kApp_ok, r_getI, kGetI_ok, r_getIT, r_setI, kSetI_ok, kStO_ok, r_while, r_bm0, kBM0_ok, r_lClear, kClear_ok, r_len, kLen_ok, len_tup, r_sl4, kSl4_ok, stepQ_nx, stepQ_ct, stepQ_bk, stepQ_rt, stepQ_xc,
  Res.bind_ok, Res.bind_exc, Res.bind_stuck,
  List.map_cons, List.map_nil, List.length_cons, List.length_nil, List.replicate_succ, List.replicate_zero, List.cons_append, List.nil_append, List.append_nil, List.set_cons_succ, List.set_cons_zero, List.getElem?_cons_succ, List.getElem?_cons_zero,
  Nat.reduceAdd, Nat.reduceSub, Nat.zero_add, Nat.sub_self, Bool.not_true, Bool.not_false, eq_self_iff_true, m3, eq_int, d1, tupD_ok, Nat.reduceLeDiff]
    exact ⟨_, [], .inl rfl, by rw [List.append_nil]⟩
  · have d1 : decide (n % 3 = 0) = false := decide_eq_false h
    obtain ⟨z, hz, hz2⟩ : ∃ z : Str, (∀ S, kLk (atI [D.str "number", .str "thing"] (n % 3 - 1)) S = .ok (.str z) S) ∧ (z = "number" ∨ z = "thing") := by
      have : n % 3 = 1 ∨ n % 3 = 2 := by omega
      rcases this with h | h <;> rw [h]
      · exact ⟨_, fun _ => rfl, .inl rfl⟩
      · exact ⟨_, fun _ => rfl, .inr rfl⟩
    obtain ⟨j, hj⟩ : ∃ j : Int, ∀ S, kLk (atI [D.int (n / 3 % 9), .int (n * 982451653 % B)] (n / 27 % 2)) S = .ok (.int j) S := by
      have : n / 27 % 2 = 0 ∨ n / 27 % 2 = 1 := by omega
      rcases this with h | h <;> rw [h] <;> exact ⟨_, fun _ => rfl⟩
    have fd3 := fun S => fdiv_int (S := S) (i := n) (j := 3) (by decide) (by decide)
    have fd27 := fun S => fdiv_int (S := S) (i := n) (j := 27) (by decide) (by decide)
    have m9 := fun S => mod_int (S := S) (i := n / 3) (j := 9) (by decide)
    have mB := fun S => mod_int (S := S) (i := n * 982451653) (j := B) B0
    have m2 := fun S => mod_int (S := S) (i := n / 27) (j := 2) (by decide)
    have mm := fun S => mul_int (S := S) (i := n) (j := 982451653) (a := 1048580) (b := 30) hn (by decide) (by decide)
    simp -implicitDefEqProofs only [r_var, kVar_ok, r_c, r_op2, kOpA_ok, kOpA_exc, kOpB_ok, kOpB_exc, r_test, r_asB, r_and, r_or, r_not, kAnd_t, kAnd_f, kAnd_exc, kOr_t, kOr_f, kOr_exc, kNot_ok, kNot_exc, r_mand, r_mor, r_mnot, kMAnd_t, kMAnd_f, kMOr_t, kMOr_f, kMNot_ok, r_ife, kIfE_t, kIfE_f, kIfE_exc,
  r_anil, r_acons, kArg_ok, kArg_exc, kArgs_ok, kArgs_exc, r_tup, r_lst, r_fld, r_call, kCall_ok, kCall_exc, r_call0, noX_ok, r_meth, kM1_ok, kM1_exc, kM2_ok, kM2_stuck, kM3_ok, kM3_exc, r_meth0, kN1_ok, kN1_exc, kN2_ok, kN2_stuck, r_make, kMake_ok, mkEnd_ok, r_cb, r_isi, r_bm, kBM1_ok, kBM2_ok, r_alt, kAlt_ok, kAlt_exc, kAlt_stuck,
  r_sl, kSl1_ok, kSl2_ok, kSl3_ok, r_ptN, r_ptS, optI_ok, r_nil, r_seq, kSeq_nx, kSeq_rt, kSeq_xc, kSeq_bk, kSeq_ct, r_clr, kClr_nx, kClr_rt, kClr_xc, kClr_bk, kClr_ct, clr_nil, clr_cons, r_set, kSet_ok, kSet_exc, r_expr, kExpr_ok, kExpr_exc, r_ret, kRet_ok, kRet_exc, r_retN, r_if, kSIf_t, kSIf_f, kSIf_exc, r_brk, r_cont, r_for, kFor_ok,
  kItA_ok, kIt_some, r_itL, r_itT, r_itS, r_itR1, r_itR2, r_itEn, r_asg, kAsg_ok, sTgO_some, tgM_nm, setAllM_nil, setAllM_cons, r_aug, kAug1_ok, kAug2_ok, r_fs, kFS1_ok, kFS2_ok, nxO_some, r_sl1, kSL1_ok, kSL2_ok, kSL3_ok, r_fnB, kFn_nx, kFn_rt, kFn_xc, r_lc, kLc_ok, r_yes, r_tgtp, kTg_ok, r_items, r_itemsT, kItems_ok, r_self, kSelf_ok, kSelf_no, ne_eq, reduceCtorEq, not_false_eq_true, r_isiR, kIsi_ok, r_ty, kTy_l, r_getF, kGetF_ok, kLk_ok, lk_yes, r_setF, r_itLl, kItL_ok, r_isL, kIsL_ok, r_lApp, kApp_ok, r_getI, kGetI_ok, r_getIT, r_setI, kSetI_ok, kStO_ok, r_while, r_bm0, kBM0_ok, r_lClear, kClear_ok, r_len, kLen_ok, len_tup, r_sl4, kSl4_ok, stepQ_nx, stepQ_ct, stepQ_bk, stepQ_rt, stepQ_xc,
  Res.bind_ok, Res.bind_exc, Res.bind_stuck,
  List.map_cons, List.map_nil, List.length_cons, List.length_nil, List.replicate_succ, List.replicate_zero, List.cons_append, List.nil_append, List.append_nil, List.set_cons_succ, List.set_cons_zero, List.getElem?_cons_succ, List.getElem?_cons_zero,
  Nat.reduceAdd, Nat.reduceSub, Nat.zero_add, Nat.sub_self, Bool.not_true, Bool.not_false, eq_self_iff_true, List.append_assoc, at_z, at_k, set_z, set_k, List.length_append, Nat.add_assoc, r_addL, kAdd_ok, r_rep, r_en, kEn_ok, putFl, m3, eq_int, d1, sub_int, lstD_ok, Nat.reduceLeDiff, hz, fd3, m9, mm, hB, mB, fd27, m2, hj, tupD_ok]
    refine ⟨_, _, ?_, rfl⟩
    rcases hz2 with rfl | rfl
    · exact .inr (.inl ⟨j, rfl⟩)
    · exact .inr (.inr ⟨j, rfl⟩)
theorem iso_ok {S : Sto} {l : Nat} {c : Cl} {fs : List (Fl × D)} (h : S[l]? = some (.ins c fs)) (hc : c = .Thing ∨ c = .Plain ∨ c = .Pair) : isoR iso_Thing (.loc l) S = .ok (.bl true) S := by
  have ty : D.ty (.loc l) S = none := by rw [r_ty, h]; rfl
  unfold isoR
  rw [ty]
  dsimp only
  rw [h]
  rcases hc with rfl | rfl | rfl <;> rfl
theorem r_iso {tab : List (Cl × Bool)} {m : MEx} {ρ : Rho} {S : Sto} : mIso tab m ρ S = (m ρ S).bind (isoR tab) := rfl
theorem ne_nil {S : Sto} {a b : Nat} {f g : Bool} {fs : List D} (of : okfs fs) (h1 : S[a]? = some (.lst f fs)) (h2 : S[b]? = some (.lst g [])) : neR (.loc a) (.loc b) S = .ok (.bl (!decide (fs = []))) S := by
  cases fs with
  | nil => exact neR_same (pd_loc h1 (rfl : optAll (pd S 7) [] = some [])) (pd_loc h2 rfl) rfl
  | cons x xs =>
    obtain ⟨ps, e, l, _, n⟩ := okfs_pd of
    unfold neR
    rw [eqD_pd (pd_loc h1 (e S 6)) (pd_loc h2 (rfl : optAll (pd S 7) [] = some [])) (by simp only [PyData.canLay0]; exact l) rfl false (by
      cases ps with
      | nil => simp at n
      | cons p ps => rfl) (.inl rfl)]
    simp
def isPlain (S : Sto) (l : Nat) (fs : List D) (w : D) : Prop := ∃ a, S[l]? = some (.ins .Plain [(.row, .loc a), (.last_words, w)]) ∧ S[a]? = some (.lst false fs)
theorem isPlain.pre {S S' : Sto} {l : Nat} {fs : List D} {w : D} (h : isPlain S l fs w) (p : S <+: S') : isPlain S' l fs w := by
  obtain ⟨a, h1, h2⟩ := h
  exact ⟨a, pfx_get p h1, pfx_get p h2⟩
theorem plain_made {S : Sto} {fs : List D} {w : D} : isPlain (S ++ [.ins .Plain [(.row, .loc (S.length + 1)), (.last_words, w)], .lst false fs]) S.length fs w :=
  ⟨S.length + 1, by rw [at_z]; rfl, by rw [at_k]; rfl⟩
theorem with_words_spec {S : Sto} {l : Nat} {fs : List D} {w u : D} (h : isPlain S l fs w) : ∃ l' S', f_Plain_with_words [.loc l, u] S = .ok (.loc l') S' ∧ S <+: S' ∧ isPlain S' l' fs u := by
  obtain ⟨a, h1, h2⟩ := h
  have q := plain_make (w := u) h2
  unfold f_Plain_with_words b_Plain_with_words
  simp -implicitDefEqProofs only [r_var, kVar_ok, r_c, r_op2, kOpA_ok, kOpA_exc, kOpB_ok, kOpB_exc, r_test, r_asB, r_and, r_or, r_not, kAnd_t, kAnd_f, kAnd_exc, kOr_t, kOr_f, kOr_exc, kNot_ok, kNot_exc, r_mand, r_mor, r_mnot, kMAnd_t, kMAnd_f, kMOr_t, kMOr_f, kMNot_ok, r_ife, kIfE_t, kIfE_f, kIfE_exc,
  r_anil, r_acons, kArg_ok, kArg_exc, kArgs_ok, kArgs_exc, r_tup, r_lst, r_fld, r_call, kCall_ok, kCall_exc, r_call0, noX_ok, r_meth, kM1_ok, kM1_exc, kM2_ok, kM2_stuck, kM3_ok, kM3_exc, r_meth0, kN1_ok, kN1_exc, kN2_ok, kN2_stuck, r_make, kMake_ok, mkEnd_ok, r_cb, r_isi, r_bm, kBM1_ok, kBM2_ok, r_alt, kAlt_ok, kAlt_exc, kAlt_stuck,
  r_sl, kSl1_ok, kSl2_ok, kSl3_ok, r_ptN, r_ptS, optI_ok, r_nil, r_seq, kSeq_nx, kSeq_rt, kSeq_xc, kSeq_bk, kSeq_ct, r_clr, kClr_nx, kClr_rt, kClr_xc, kClr_bk, kClr_ct, clr_nil, clr_cons, r_set, kSet_ok, kSet_exc, r_expr, kExpr_ok, kExpr_exc, r_ret, kRet_ok, kRet_exc, r_retN, r_if, kSIf_t, kSIf_f, kSIf_exc, r_brk, r_cont, r_for, kFor_ok,
  kItA_ok, kIt_some, r_itL, r_itT, r_itS, r_itR1, r_itR2, r_itEn, r_asg, kAsg_ok, sTgO_some, tgM_nm, setAllM_nil, setAllM_cons, r_aug, kAug1_ok, kAug2_ok, r_fs, kFS1_ok, kFS2_ok, nxO_some, r_sl1, kSL1_ok, kSL2_ok, kSL3_ok, r_fnB, kFn_nx, kFn_rt, kFn_xc, r_lc, kLc_ok, r_yes, r_tgtp, kTg_ok, r_items, r_itemsT, kItems_ok, r_self, kSelf_ok, kSelf_no, ne_eq, reduceCtorEq, not_false_eq_true, r_isiR, kIsi_ok, r_ty, kTy_l, r_getF, kGetF_ok, kLk_ok, lk_yes, r_setF, r_itLl, kItL_ok, r_isL, kIsL_ok, r_lApp, kApp_ok, r_getI, kGetI_ok, r_getIT, r_setI, kSetI_ok, kStO_ok, r_while, r_bm0, kBM0_ok, r_lClear, kClear_ok, r_len, kLen_ok, len_tup, r_sl4, kSl4_ok, stepQ_nx, stepQ_ct, stepQ_bk, stepQ_rt, stepQ_xc,
  Res.bind_ok, Res.bind_exc, Res.bind_stuck,
  List.map_cons, List.map_nil, List.length_cons, List.length_nil, List.replicate_succ, List.replicate_zero, List.cons_append, List.nil_append, List.append_nil, List.set_cons_succ, List.set_cons_zero, List.getElem?_cons_succ, List.getElem?_cons_zero,
  Nat.reduceAdd, Nat.reduceSub, Nat.zero_add, Nat.sub_self, Bool.not_true, Bool.not_false, eq_self_iff_true, h1, q]
  exact ⟨_, _, rfl, ⟨_, rfl⟩, plain_made⟩
def spl (fs : List D) (i : Nat) (v : D) : List D := fs.take i ++ [v] ++ fs.drop (i + 1)
theorem with_field_spec {S : Sto} {l i : Nat} {fs : List D} {w v : D} (h : isPlain S l fs w) (hn : fs.length ≤ 1000) : ∃ l' S', f_Plain_with_field [.loc l, .int (i : Int), v] S = .ok (.loc l') S' ∧ S <+: S' ∧ isPlain S' l' (spl fs i v) w := by
  obtain ⟨a, h1, h2⟩ := h
  have c1 : cutD fs none (some (i : Int)) = fs.take i := cut_to
  have c2 : cutD fs (some ((i : Int) + 1)) none = fs.drop (i + 1) := by rw [show (i : Int) + 1 = ((i + 1 : Nat) : Int) from rfl, cut_from]
  have f1 : (Fl.last_words == Fl.row) = false := by decide
  have g1 : ∀ T, (S ++ T)[l]? = some (.ins .Plain [(.row, .loc a), (.last_words, w)]) := fun T => get_app h1
  have g2 : ∀ T, (S ++ T)[a]? = some (.lst false fs) := fun T => get_app h2
  have k1 : ∀ S : Sto, kAdd (some (.lst false (fs.take i))) (some (.lst false [v])) S = .ok (.loc S.length) (S ++ [.lst false (fs.take i ++ [v])]) := fun S => kAdd_ok (by rw [le_line (by simp; omega)]; trivial)
  have k2 : ∀ S : Sto, kAdd (some (.lst false (fs.take i ++ [v]))) (some (.lst false (fs.drop (i + 1)))) S = .ok (.loc S.length) (S ++ [.lst false (fs.take i ++ [v] ++ fs.drop (i + 1))]) := fun S => kAdd_ok (by rw [le_line (by simp; omega)]; trivial)
  obtain ⟨S5, hS5⟩ : ∃ S5, S5 = S ++ [O.lst false (fs.take i), .lst false [v], .lst false (fs.take i ++ [v]), .lst false (fs.drop (i + 1)), .lst false (spl fs i v)] := ⟨_, rfl⟩
  have g5 : S5[S.length + 4]? = some (.lst false (spl fs i v)) := by rw [hS5, at_k]; rfl
  have e5 : S5[l]? = some (.ins .Plain [(.row, .loc a), (.last_words, w)]) := by rw [hS5]; exact g1 _
  have q := plain_make (w := w) g5
  have A1 : S ++ [O.lst false (fs.take i)] ++ [O.lst false [v]] = S ++ [O.lst false (fs.take i), .lst false [v]] := by simp
  have A2 : S ++ [O.lst false (fs.take i), .lst false [v]] ++ [O.lst false (fs.take i ++ [v])] = S ++ [O.lst false (fs.take i), .lst false [v], .lst false (fs.take i ++ [v])] := by simp
  have A3 : S ++ [O.lst false (fs.take i), .lst false [v], .lst false (fs.take i ++ [v])] ++ [O.lst false (fs.drop (i + 1))] = S ++ [O.lst false (fs.take i), .lst false [v], .lst false (fs.take i ++ [v]), .lst false (fs.drop (i + 1))] := by simp
  have A4 : S ++ [O.lst false (fs.take i), .lst false [v], .lst false (fs.take i ++ [v]), .lst false (fs.drop (i + 1))] ++ [O.lst false (fs.take i ++ [v] ++ fs.drop (i + 1))] = S5 := by rw [hS5, spl]; simp
  have n1 : (S ++ [O.lst false (fs.take i)]).length = S.length + 1 := by simp
  have n2 : (S ++ [O.lst false (fs.take i), .lst false [v]]).length = S.length + 2 := by simp
  have n3 : (S ++ [O.lst false (fs.take i), .lst false [v], .lst false (fs.take i ++ [v])]).length = S.length + 3 := by simp
  have n4 : (S ++ [O.lst false (fs.take i), .lst false [v], .lst false (fs.take i ++ [v]), .lst false (fs.drop (i + 1))]).length = S.length + 4 := by simp
  have ad1 : addD (.loc S.length) (.loc (S.length + 1)) (S ++ [O.lst false (fs.take i), .lst false [v]]) = .ok (.loc (S.length + 2)) (S ++ [O.lst false (fs.take i), .lst false [v], .lst false (fs.take i ++ [v])]) := by
    rw [r_addL, at_z, at_k, ← A2, ← n2]
    exact k1 _
  have ad2 : addD (.loc (S.length + 2)) (.loc (S.length + 3)) (S ++ [O.lst false (fs.take i), .lst false [v], .lst false (fs.take i ++ [v]), .lst false (fs.drop (i + 1))]) = .ok (.loc (S.length + 4)) S5 := by
    rw [r_addL, at_k, at_k, ← A4, ← n4]
    exact k2 _
  unfold f_Plain_with_field b_Plain_with_field
  simp -implicitDefEqProofs only [r_var, kVar_ok, r_c, r_op2, kOpA_ok, kOpA_exc, kOpB_ok, kOpB_exc, r_test, r_asB, r_and, r_or, r_not, kAnd_t, kAnd_f, kAnd_exc, kOr_t, kOr_f, kOr_exc, kNot_ok, kNot_exc, r_mand, r_mor, r_mnot, kMAnd_t, kMAnd_f, kMOr_t, kMOr_f, kMNot_ok, r_ife, kIfE_t, kIfE_f, kIfE_exc,
  r_anil, r_acons, kArg_ok, kArg_exc, kArgs_ok, kArgs_exc, r_tup, r_lst, r_fld, r_call, kCall_ok, kCall_exc, r_call0, noX_ok, r_meth, kM1_ok, kM1_exc, kM2_ok, kM2_stuck, kM3_ok, kM3_exc, r_meth0, kN1_ok, kN1_exc, kN2_ok, kN2_stuck, r_make, kMake_ok, mkEnd_ok, r_cb, r_isi, r_bm, kBM1_ok, kBM2_ok, r_alt, kAlt_ok, kAlt_exc, kAlt_stuck,
  r_sl, kSl1_ok, kSl2_ok, kSl3_ok, r_ptN, r_ptS, optI_ok, r_nil, r_seq, kSeq_nx, kSeq_rt, kSeq_xc, kSeq_bk, kSeq_ct, r_clr, kClr_nx, kClr_rt, kClr_xc, kClr_bk, kClr_ct, clr_nil, clr_cons, r_set, kSet_ok, kSet_exc, r_expr, kExpr_ok, kExpr_exc, r_ret, kRet_ok, kRet_exc, r_retN, r_if, kSIf_t, kSIf_f, kSIf_exc, r_brk, r_cont, r_for, kFor_ok,
  kItA_ok, kIt_some, r_itL, r_itT, r_itS, r_itR1, r_itR2, r_itEn, r_asg, kAsg_ok, sTgO_some, tgM_nm, setAllM_nil, setAllM_cons, r_aug, kAug1_ok, kAug2_ok, r_fs, kFS1_ok, kFS2_ok, nxO_some, r_sl1, kSL1_ok, kSL2_ok, kSL3_ok, r_fnB, kFn_nx, kFn_rt, kFn_xc, r_lc, kLc_ok, r_yes, r_tgtp, kTg_ok, r_items, r_itemsT, kItems_ok, r_self, kSelf_ok, kSelf_no, ne_eq, reduceCtorEq, not_false_eq_true, r_isiR, kIsi_ok, r_ty, kTy_l, r_getF, kGetF_ok, kLk_ok, lk_yes, r_setF, r_itLl, kItL_ok, r_isL, kIsL_ok, r_lApp, kApp_ok, r_getI, kGetI_ok, r_getIT, r_setI, kSetI_ok, kStO_ok, r_while, r_bm0, kBM0_ok, r_lClear, kClear_ok, r_len, kLen_ok, len_tup, r_sl4, kSl4_ok, stepQ_nx, stepQ_ct, stepQ_bk, stepQ_rt, stepQ_xc,
  Res.bind_ok, Res.bind_exc, Res.bind_stuck,
  List.map_cons, List.map_nil, List.length_cons, List.length_nil, List.replicate_succ, List.replicate_zero, List.cons_append, List.nil_append, List.append_nil, List.set_cons_succ, List.set_cons_zero, List.getElem?_cons_succ, List.getElem?_cons_zero,
  Nat.reduceAdd, Nat.reduceSub, Nat.zero_add, Nat.sub_self, Bool.not_true, Bool.not_false, eq_self_iff_true, h1, h2, c1, lstD_ok, Nat.reduceLeDiff, A1, n1, ad1, g1, g2, add_int, addI_int, c2, A3, n3, ad2, e5, lk_no f1, q]
  exact ⟨_, _, rfl, pfx_app (by rw [hS5]; exact ⟨_, rfl⟩), plain_made⟩

theorem spl_field {fs : List D} {i : Nat} {v : D} (h : ∀ x ∈ fs, isField x) (hv : isField v) : ∀ x ∈ spl fs i v, isField x := by
  intro x hx
  unfold spl at hx
  rcases List.mem_append.mp hx with hx | hx
  · rcases List.mem_append.mp hx with hx | hx
    · exact h x (List.mem_of_mem_take hx)
    · rw [List.mem_singleton.mp hx]; exact hv
  · exact h x (List.mem_of_mem_drop hx)
theorem spl_len {fs : List D} {i : Nat} {v : D} (h : i < fs.length) : (spl fs i v).length = fs.length := by
  unfold spl
  simp
  omega
theorem splice_ev {S : Sto} {fs : List D} {i : Nat} {v : D} (hn : fs.length ≤ 1000) : ∃ Sb Sc : Sto, addD (.loc S.length) (.loc (S.length + 1)) (S ++ [O.lst false (fs.take i)] ++ [O.lst false [v]]) = .ok (.loc (S.length + 2)) Sb ∧ S <+: Sb ∧ Sb.length = S.length + 3 ∧
    addD (.loc (S.length + 2)) (.loc (S.length + 3)) (Sb ++ [O.lst false (fs.drop (i + 1))]) = .ok (.loc (S.length + 4)) Sc ∧ S <+: Sc ∧ Sc[S.length + 4]? = some (.lst false (spl fs i v)) := by
  have k1 : ∀ S : Sto, kAdd (some (.lst false (fs.take i))) (some (.lst false [v])) S = .ok (.loc S.length) (S ++ [.lst false (fs.take i ++ [v])]) := fun S => kAdd_ok (by rw [le_line (by simp; omega)]; trivial)
  have k2 : ∀ S : Sto, kAdd (some (.lst false (fs.take i ++ [v]))) (some (.lst false (fs.drop (i + 1)))) S = .ok (.loc S.length) (S ++ [.lst false (fs.take i ++ [v] ++ fs.drop (i + 1))]) := fun S => kAdd_ok (by rw [le_line (by simp; omega)]; trivial)
  refine ⟨S ++ [O.lst false (fs.take i), .lst false [v], .lst false (fs.take i ++ [v])], S ++ [O.lst false (fs.take i), .lst false [v], .lst false (fs.take i ++ [v]), .lst false (fs.drop (i + 1)), .lst false (spl fs i v)], ?_, ⟨_, rfl⟩, by simp, ?_, ⟨_, rfl⟩, by rw [at_k]; rfl⟩
  · rw [List.append_assoc, r_addL, at_z, at_k]
    show kAdd (some (.lst false (fs.take i))) (some (.lst false [v])) _ = _
    rw [k1]
    simp
  · rw [List.append_assoc, r_addL, at_k, at_k]
    show kAdd (some (.lst false (fs.take i ++ [v]))) (some (.lst false (fs.drop (i + 1)))) _ = _
    rw [k2]
    simp [spl]
theorem weak_spec {k : D} (S : Sto) : f_weak [k] S = .ok (.loc (S.length + 1)) (S ++ [.lst false [k], .ins .Thing [(.row, .loc (S.length + 2))], .lst false [k]]) := by
  have q := thing_make (S := S ++ [O.lst false [k]]) (c := .Thing) (h := S.length) (fs := [k]) (by decide) (get_last _ _)
  have n1 : (S ++ [O.lst false [k]]).length = S.length + 1 := by simp
  rw [n1] at q
  unfold f_weak b_weak
  simp -implicitDefEqProofs only [r_var, kVar_ok, r_c, r_op2, kOpA_ok, kOpA_exc, kOpB_ok, kOpB_exc, r_test, r_asB, r_and, r_or, r_not, kAnd_t, kAnd_f, kAnd_exc, kOr_t, kOr_f, kOr_exc, kNot_ok, kNot_exc, r_mand, r_mor, r_mnot, kMAnd_t, kMAnd_f, kMOr_t, kMOr_f, kMNot_ok, r_ife, kIfE_t, kIfE_f, kIfE_exc,
  r_anil, r_acons, kArg_ok, kArg_exc, kArgs_ok, kArgs_exc, r_tup, r_lst, r_fld, r_call, kCall_ok, kCall_exc, r_call0, noX_ok, r_meth, kM1_ok, kM1_exc, kM2_ok, kM2_stuck, kM3_ok, kM3_exc, r_meth0, kN1_ok, kN1_exc, kN2_ok, kN2_stuck, r_make, kMake_ok, mkEnd_ok, r_cb, r_isi, r_bm, kBM1_ok, kBM2_ok, r_alt, kAlt_ok, kAlt_exc, kAlt_stuck,
  r_sl, kSl1_ok, kSl2_ok, kSl3_ok, r_ptN, r_ptS, optI_ok, r_nil, r_seq, kSeq_nx, kSeq_rt, kSeq_xc, kSeq_bk, kSeq_ct, r_clr, kClr_nx, kClr_rt, kClr_xc, kClr_bk, kClr_ct, clr_nil, clr_cons, r_set, kSet_ok, kSet_exc, r_expr, kExpr_ok, kExpr_exc, r_ret, kRet_ok, kRet_exc, r_retN, r_if, kSIf_t, kSIf_f, kSIf_exc, r_brk, r_cont, r_for, kFor_ok,
  kItA_ok, kIt_some, r_itL, r_itT, r_itS, r_itR1, r_itR2, r_itEn, r_asg, kAsg_ok, sTgO_some, tgM_nm, setAllM_nil, setAllM_cons, r_aug, kAug1_ok, kAug2_ok, r_fs, kFS1_ok, kFS2_ok, nxO_some, r_sl1, kSL1_ok, kSL2_ok, kSL3_ok, r_fnB, kFn_nx, kFn_rt, kFn_xc, r_lc, kLc_ok, r_yes, r_tgtp, kTg_ok, r_items, r_itemsT, kItems_ok, r_self, kSelf_ok, kSelf_no, ne_eq, reduceCtorEq, not_false_eq_true, r_isiR, kIsi_ok, r_ty, kTy_l, r_getF, kGetF_ok, kLk_ok, lk_yes, r_setF, r_itLl, kItL_ok, r_isL, kIsL_ok, r_lApp, kApp_ok, r_getI, kGetI_ok, r_getIT, r_setI, kSetI_ok, kStO_ok, r_while, r_bm0, kBM0_ok, r_lClear, kClear_ok, r_len, kLen_ok, len_tup, r_sl4, kSl4_ok, stepQ_nx, stepQ_ct, stepQ_bk, stepQ_rt, stepQ_xc,
  Res.bind_ok, Res.bind_exc, Res.bind_stuck,
  List.map_cons, List.map_nil, List.length_cons, List.length_nil, List.replicate_succ, List.replicate_zero, List.cons_append, List.nil_append, List.append_nil, List.set_cons_succ, List.set_cons_zero, List.getElem?_cons_succ, List.getElem?_cons_zero,
  Nat.reduceAdd, Nat.reduceSub, Nat.zero_add, Nat.sub_self, Bool.not_true, Bool.not_false, eq_self_iff_true, lstD_ok, Nat.reduceLeDiff, n1, q]
  simp
theorem pair_spec {k v : D} (S : Sto) : f_pair [k, v] S = .ok (.loc (S.length + 1)) (S ++ [.lst false [k, v], .ins .Pair [(.row, .loc (S.length + 2))], .lst false [k, v]]) := by
  have q := thing_make (S := S ++ [O.lst false [k, v]]) (c := .Pair) (h := S.length) (fs := [k, v]) (by decide) (get_last _ _)
  have n1 : (S ++ [O.lst false [k, v]]).length = S.length + 1 := by simp
  rw [n1] at q
  unfold f_pair b_pair
  simp -implicitDefEqProofs only [r_var, kVar_ok, r_c, r_op2, kOpA_ok, kOpA_exc, kOpB_ok, kOpB_exc, r_test, r_asB, r_and, r_or, r_not, kAnd_t, kAnd_f, kAnd_exc, kOr_t, kOr_f, kOr_exc, kNot_ok, kNot_exc, r_mand, r_mor, r_mnot, kMAnd_t, kMAnd_f, kMOr_t, kMOr_f, kMNot_ok, r_ife, kIfE_t, kIfE_f, kIfE_exc,
  r_anil, r_acons, kArg_ok, kArg_exc, kArgs_ok, kArgs_exc, r_tup, r_lst, r_fld, r_call, kCall_ok, kCall_exc, r_call0, noX_ok, r_meth, kM1_ok, kM1_exc, kM2_ok, kM2_stuck, kM3_ok, kM3_exc, r_meth0, kN1_ok, kN1_exc, kN2_ok, kN2_stuck, r_make, kMake_ok, mkEnd_ok, r_cb, r_isi, r_bm, kBM1_ok, kBM2_ok, r_alt, kAlt_ok, kAlt_exc, kAlt_stuck,
  r_sl, kSl1_ok, kSl2_ok, kSl3_ok, r_ptN, r_ptS, optI_ok, r_nil, r_seq, kSeq_nx, kSeq_rt, kSeq_xc, kSeq_bk, kSeq_ct, r_clr, kClr_nx, kClr_rt, kClr_xc, kClr_bk, kClr_ct, clr_nil, clr_cons, r_set, kSet_ok, kSet_exc, r_expr, kExpr_ok, kExpr_exc, r_ret, kRet_ok, kRet_exc, r_retN, r_if, kSIf_t, kSIf_f, kSIf_exc, r_brk, r_cont, r_for, kFor_ok,
  kItA_ok, kIt_some, r_itL, r_itT, r_itS, r_itR1, r_itR2, r_itEn, r_asg, kAsg_ok, sTgO_some, tgM_nm, setAllM_nil, setAllM_cons, r_aug, kAug1_ok, kAug2_ok, r_fs, kFS1_ok, kFS2_ok, nxO_some, r_sl1, kSL1_ok, kSL2_ok, kSL3_ok, r_fnB, kFn_nx, kFn_rt, kFn_xc, r_lc, kLc_ok, r_yes, r_tgtp, kTg_ok, r_items, r_itemsT, kItems_ok, r_self, kSelf_ok, kSelf_no, ne_eq, reduceCtorEq, not_false_eq_true, r_isiR, kIsi_ok, r_ty, kTy_l, r_getF, kGetF_ok, kLk_ok, lk_yes, r_setF, r_itLl, kItL_ok, r_isL, kIsL_ok, r_lApp, kApp_ok, r_getI, kGetI_ok, r_getIT, r_setI, kSetI_ok, kStO_ok, r_while, r_bm0, kBM0_ok, r_lClear, kClear_ok, r_len, kLen_ok, len_tup, r_sl4, kSl4_ok, stepQ_nx, stepQ_ct, stepQ_bk, stepQ_rt, stepQ_xc,
  Res.bind_ok, Res.bind_exc, Res.bind_stuck,
  List.map_cons, List.map_nil, List.length_cons, List.length_nil, List.replicate_succ, List.replicate_zero, List.cons_append, List.nil_append, List.append_nil, List.set_cons_succ, List.set_cons_zero, List.getElem?_cons_succ, List.getElem?_cons_zero,
  Nat.reduceAdd, Nat.reduceSub, Nat.zero_add, Nat.sub_self, Bool.not_true, Bool.not_false, eq_self_iff_true, lstD_ok, Nat.reduceLeDiff, n1, q]
  simp
theorem holds_spec {c : Int} (hc : c.natAbs < 2 ^ 1048576) (S : Sto) : ∃ S', f_law_holds [.int c] S = .ok (.bl true) S' ∧ S <+: S' := by
  obtain ⟨N, hN⟩ : ∃ N, N = if c < 0 then -c else c := ⟨_, rfl⟩
  have N0 : 0 ≤ N := by rw [hN]; split <;> omega
  have N1 : N.natAbs < 2 ^ 1048576 := by
    have : N.natAbs = c.natAbs := by rw [hN]; split <;> omega
    rw [this]; exact hc
  have ca : ∀ S, cAbs [.int c] S = .ok (.int N) S := fun S => by rw [hN]; rfl
  clear hN
  obtain ⟨B, B0, hB⟩ := p60
  obtain ⟨m, hm, m9⟩ : ∃ m : Nat, N % 9 = (m : Int) ∧ m < 9 := ⟨(N % 9).toNat, by omega, by omega⟩
  obtain ⟨w, hw, ow⟩ : ∃ w : D, (∀ S, kLk (atI [D.non, .int (N / 9 % B)] (N / 5 % 2)) S = .ok w S) ∧ okf w := by
    have : N / 5 % 2 = 0 ∨ N / 5 % 2 = 1 := by omega
    rcases this with h | h <;> rw [h]
    · exact ⟨_, fun _ => rfl, okf_non⟩
    · exact ⟨_, fun _ => rfl, okf_int _⟩
  have md := fun (i j : Int) (h : 0 < j) S => mod_int (S := S) (i := i) (j := j) h
  have fd := fun (j : Int) S (h : 0 < j) (h2 : j.natAbs.log2 < 9000) => fdiv_int (S := S) (i := N) (j := j) h h2
  have md9 := md N 9 (by decide)
  have fd9 := fun S => fd 9 S (by decide) (by decide)
  have mdB := md (N / 9) B B0
  have fd5 := fun S => fd 5 S (by decide) (by decide)
  have md2 := fun i => md i 2 (by decide)
  have fd7 := fun S => fd 7 S (by decide) (by decide)
  have fd11 := fun S => fd 11 S (by decide) (by decide)
  have fd13 := fun S => fd 13 S (by decide) (by decide)
  have md50 := md N 50 (by decide)
  have tm : (m : Int).toNat = m := Int.toNat_natCast m
  unfold f_law_holds b_law_holds
  simp -implicitDefEqProofs only [r_var, kVar_ok, r_c, r_op2, kOpA_ok, kOpA_exc, kOpB_ok, kOpB_exc, r_test, r_asB, r_and, r_or, r_not, kAnd_t, kAnd_f, kAnd_exc, kOr_t, kOr_f, kOr_exc, kNot_ok, kNot_exc, r_mand, r_mor, r_mnot, kMAnd_t, kMAnd_f, kMOr_t, kMOr_f, kMNot_ok, r_ife, kIfE_t, kIfE_f, kIfE_exc,
  r_anil, r_acons, kArg_ok, kArg_exc, kArgs_ok, kArgs_exc, r_tup, r_lst, r_fld, r_call, kCall_ok, kCall_exc, r_call0, noX_ok, r_meth, kM1_ok, kM1_exc, kM2_ok, kM2_stuck, kM3_ok, kM3_exc, r_meth0, kN1_ok, kN1_exc, kN2_ok, kN2_stuck, r_make, kMake_ok, mkEnd_ok, r_cb, r_isi, r_bm, kBM1_ok, kBM2_ok, r_alt, kAlt_ok, kAlt_exc, kAlt_stuck,
  r_sl, kSl1_ok, kSl2_ok, kSl3_ok, r_ptN, r_ptS, optI_ok, r_nil, r_seq, kSeq_nx, kSeq_rt, kSeq_xc, kSeq_bk, kSeq_ct, r_clr, kClr_nx, kClr_rt, kClr_xc, kClr_bk, kClr_ct, clr_nil, clr_cons, r_set, kSet_ok, kSet_exc, r_expr, kExpr_ok, kExpr_exc, r_ret, kRet_ok, kRet_exc, r_retN, r_if, kSIf_t, kSIf_f, kSIf_exc, r_brk, r_cont, r_for, kFor_ok,
  kItA_ok, kIt_some, r_itL, r_itT, r_itS, r_itR1, r_itR2, r_itEn, r_asg, kAsg_ok, sTgO_some, tgM_nm, setAllM_nil, setAllM_cons, r_aug, kAug1_ok, kAug2_ok, r_fs, kFS1_ok, kFS2_ok, nxO_some, r_sl1, kSL1_ok, kSL2_ok, kSL3_ok, r_fnB, kFn_nx, kFn_rt, kFn_xc, r_lc, kLc_ok, r_yes, r_tgtp, kTg_ok, r_items, r_itemsT, kItems_ok, r_self, kSelf_ok, kSelf_no, ne_eq, reduceCtorEq, not_false_eq_true, r_isiR, kIsi_ok, r_ty, kTy_l, r_getF, kGetF_ok, kLk_ok, lk_yes, r_setF, r_itLl, kItL_ok, r_isL, kIsL_ok, r_lApp, kApp_ok, r_getI, kGetI_ok, r_getIT, r_setI, kSetI_ok, kStO_ok, r_while, r_bm0, kBM0_ok, r_lClear, kClear_ok, r_len, kLen_ok, len_tup, r_sl4, kSl4_ok, stepQ_nx, stepQ_ct, stepQ_bk, stepQ_rt, stepQ_xc,
  Res.bind_ok, Res.bind_exc, Res.bind_stuck,
  List.map_cons, List.map_nil, List.length_cons, List.length_nil, List.replicate_succ, List.replicate_zero, List.cons_append, List.nil_append, List.append_nil, List.set_cons_succ, List.set_cons_zero, List.getElem?_cons_succ, List.getElem?_cons_zero,
  Nat.reduceAdd, Nat.reduceSub, Nat.zero_add, Nat.sub_self, Bool.not_true, Bool.not_false, eq_self_iff_true, ca, md9, hm, itR1_ok (show (0 : Int) ≤ (m : Int) by omega) (show (m : Int) < 2 ^ 62 by omega), tm]
  generalize hlc : lcGo _ _ _ _ _ _ _ _ _ = rr
  have hrr : ∃ S1 fs, S <+: S1 ∧ rr = .ok (.loc S.length) S1 ∧ S1[S.length]? = some (.lst false fs) ∧ fs.length ≤ 9 ∧ ∀ x ∈ fs, isField x := by
    have hlen : ((List.range m).map fun k : Nat => D.int (0 + k)).length = m := by simp
    refine lcI hlc ((List.range m).map fun k : Nat => D.int (0 + k)) (fun i S1 => ∃ fs, S <+: S1 ∧ S1[S.length]? = some (.lst false fs) ∧ fs.length = i ∧ ∀ x ∈ fs, isField x) (fun rr => ∃ S1 fs, S <+: S1 ∧ rr = .ok (.loc S.length) S1 ∧ S1[S.length]? = some (.lst false fs) ∧ fs.length ≤ 9 ∧ ∀ x ∈ fs, isField x) (by rw [hlen]; omega) ⟨[], ⟨_, rfl⟩, get_last _ _, rfl, fun x hx => by cases hx⟩ (fun i S1 _ _ => @rng_get 0 m i S1) ?_ ?_
    · rintro i x S1 e ⟨fs, p, g, l, hf⟩
      have hi := (List.getElem?_eq_some_iff.mp e).1
      rw [hlen] at hi
      simp [hi] at e
      subst e
      refine ⟨_, rfl, true, S1, rfl, (fun z => nomatch z), fun _ => ?_⟩
      have fk := fun S => fd ((i : Int) + 2) S (by omega) (log2_lt (n := 10) (by omega) (by omega) (by decide))
      have hb : (N / ((i : Int) + 2) + (i : Int)).natAbs < 2 ^ 1048580 := by
        have h1 := div_lt_pow (d := (i : Int) + 2) (by omega) N1
        have h2 : (i : Int).natAbs < 2 ^ 1048576 := by
          have : 2 ^ 4 ≤ 2 ^ 1048576 := Nat.pow_le_pow_right (by decide) (by decide)
          omega
        exact Nat.lt_of_lt_of_le (add_lt_pow h1 h2) (Nat.pow_le_pow_right (by decide) (by decide))
      obtain ⟨v, T, hv, q⟩ := value_by_spec hb S1
      refine ⟨v, S1 ++ T, fs, ?_, get_app g, by rw [lt_line (by omega)]; trivial, fs ++ [v], pfx_set (pfx_app p) (Nat.le_refl _), set_get_self (get_app g), by rw [List.length_append, l]; rfl, ?_⟩
      · simp -implicitDefEqProofs only [r_var, kVar_ok, r_c, r_op2, kOpA_ok, kOpA_exc, kOpB_ok, kOpB_exc, r_test, r_asB, r_and, r_or, r_not, kAnd_t, kAnd_f, kAnd_exc, kOr_t, kOr_f, kOr_exc, kNot_ok, kNot_exc, r_mand, r_mor, r_mnot, kMAnd_t, kMAnd_f, kMOr_t, kMOr_f, kMNot_ok, r_ife, kIfE_t, kIfE_f, kIfE_exc,
  r_anil, r_acons, kArg_ok, kArg_exc, kArgs_ok, kArgs_exc, r_tup, r_lst, r_fld, r_call, kCall_ok, kCall_exc, r_call0, noX_ok, r_meth, kM1_ok, kM1_exc, kM2_ok, kM2_stuck, kM3_ok, kM3_exc, r_meth0, kN1_ok, kN1_exc, kN2_ok, kN2_stuck, r_make, kMake_ok, mkEnd_ok, r_cb, r_isi, r_bm, kBM1_ok, kBM2_ok, r_alt, kAlt_ok, kAlt_exc, kAlt_stuck,
  r_sl, kSl1_ok, kSl2_ok, kSl3_ok, r_ptN, r_ptS, optI_ok, r_nil, r_seq, kSeq_nx, kSeq_rt, kSeq_xc, kSeq_bk, kSeq_ct, r_clr, kClr_nx, kClr_rt, kClr_xc, kClr_bk, kClr_ct, clr_nil, clr_cons, r_set, kSet_ok, kSet_exc, r_expr, kExpr_ok, kExpr_exc, r_ret, kRet_ok, kRet_exc, r_retN, r_if, kSIf_t, kSIf_f, kSIf_exc, r_brk, r_cont, r_for, kFor_ok,
  kItA_ok, kIt_some, r_itL, r_itT, r_itS, r_itR1, r_itR2, r_itEn, r_asg, kAsg_ok, sTgO_some, tgM_nm, setAllM_nil, setAllM_cons, r_aug, kAug1_ok, kAug2_ok, r_fs, kFS1_ok, kFS2_ok, nxO_some, r_sl1, kSL1_ok, kSL2_ok, kSL3_ok, r_fnB, kFn_nx, kFn_rt, kFn_xc, r_lc, kLc_ok, r_yes, r_tgtp, kTg_ok, r_items, r_itemsT, kItems_ok, r_self, kSelf_ok, kSelf_no, ne_eq, reduceCtorEq, not_false_eq_true, r_isiR, kIsi_ok, r_ty, kTy_l, r_getF, kGetF_ok, kLk_ok, lk_yes, r_setF, r_itLl, kItL_ok, r_isL, kIsL_ok, r_lApp, kApp_ok, r_getI, kGetI_ok, r_getIT, r_setI, kSetI_ok, kStO_ok, r_while, r_bm0, kBM0_ok, r_lClear, kClear_ok, r_len, kLen_ok, len_tup, r_sl4, kSl4_ok, stepQ_nx, stepQ_ct, stepQ_bk, stepQ_rt, stepQ_xc,
  Res.bind_ok, Res.bind_exc, Res.bind_stuck,
  List.map_cons, List.map_nil, List.length_cons, List.length_nil, List.replicate_succ, List.replicate_zero, List.cons_append, List.nil_append, List.append_nil, List.set_cons_succ, List.set_cons_zero, List.getElem?_cons_succ, List.getElem?_cons_zero,
  Nat.reduceAdd, Nat.reduceSub, Nat.zero_add, Nat.sub_self, Bool.not_true, Bool.not_false, eq_self_iff_true, add_int, fk, q]
      · intro x hx
        rcases List.mem_append.mp hx with hx | hx
        · exact hf x hx
        · rw [List.mem_singleton.mp hx]; exact hv
    · rintro S1 ⟨fs, p, g, l, hf⟩
      rw [hlen] at l
      exact ⟨S1, fs, p, rfl, g, by omega, hf⟩
  obtain ⟨S1, fs, p1, rfl, g1, n9, hf⟩ := hrr
  have l1 := get_lt g1
  -- handed, the thing, and what is written into copies
  obtain ⟨S2, hS2⟩ : ∃ S2, S2 = S1 ++ [O.lst false [.non, .int (N / 9 % B)]] := ⟨_, rfl⟩
  have p2 : S1 <+: S2 := ⟨_, hS2.symm⟩
  have w2 : S2[S1.length]? = some (.lst false [.non, .int (N / 9 % B)]) := by rw [hS2]; exact get_last _ _
  have g2 := pfx_get p2 g1
  have l2 := get_lt g2
  obtain ⟨S3, hS3⟩ : ∃ S3, S3 = S2 ++ [O.lst false fs] := ⟨_, rfl⟩
  have p3 : S2 <+: S3 := ⟨_, hS3.symm⟩
  have g3 := pfx_get p3 g2
  have h3 : S3[S2.length]? = some (.lst false fs) := by rw [hS3]; exact get_last _ _
  have cl2 := cList_ok g2
  rw [← hS3] at cl2
  have mk := plain_make (w := w) h3
  have qp : f_plain [.loc S2.length, w] S3 = .ok (.loc S3.length) (S3 ++ [.ins .Plain [(.row, .loc (S3.length + 1)), (.last_words, w)], .lst false fs]) := by
    unfold f_plain b_plain
    simp -implicitDefEqProofs only [r_var, kVar_ok, r_c, r_op2, kOpA_ok, kOpA_exc, kOpB_ok, kOpB_exc, r_test, r_asB, r_and, r_or, r_not, kAnd_t, kAnd_f, kAnd_exc, kOr_t, kOr_f, kOr_exc, kNot_ok, kNot_exc, r_mand, r_mor, r_mnot, kMAnd_t, kMAnd_f, kMOr_t, kMOr_f, kMNot_ok, r_ife, kIfE_t, kIfE_f, kIfE_exc,
  r_anil, r_acons, kArg_ok, kArg_exc, kArgs_ok, kArgs_exc, r_tup, r_lst, r_fld, r_call, kCall_ok, kCall_exc, r_call0, noX_ok, r_meth, kM1_ok, kM1_exc, kM2_ok, kM2_stuck, kM3_ok, kM3_exc, r_meth0, kN1_ok, kN1_exc, kN2_ok, kN2_stuck, r_make, kMake_ok, mkEnd_ok, r_cb, r_isi, r_bm, kBM1_ok, kBM2_ok, r_alt, kAlt_ok, kAlt_exc, kAlt_stuck,
  r_sl, kSl1_ok, kSl2_ok, kSl3_ok, r_ptN, r_ptS, optI_ok, r_nil, r_seq, kSeq_nx, kSeq_rt, kSeq_xc, kSeq_bk, kSeq_ct, r_clr, kClr_nx, kClr_rt, kClr_xc, kClr_bk, kClr_ct, clr_nil, clr_cons, r_set, kSet_ok, kSet_exc, r_expr, kExpr_ok, kExpr_exc, r_ret, kRet_ok, kRet_exc, r_retN, r_if, kSIf_t, kSIf_f, kSIf_exc, r_brk, r_cont, r_for, kFor_ok,
  kItA_ok, kIt_some, r_itL, r_itT, r_itS, r_itR1, r_itR2, r_itEn, r_asg, kAsg_ok, sTgO_some, tgM_nm, setAllM_nil, setAllM_cons, r_aug, kAug1_ok, kAug2_ok, r_fs, kFS1_ok, kFS2_ok, nxO_some, r_sl1, kSL1_ok, kSL2_ok, kSL3_ok, r_fnB, kFn_nx, kFn_rt, kFn_xc, r_lc, kLc_ok, r_yes, r_tgtp, kTg_ok, r_items, r_itemsT, kItems_ok, r_self, kSelf_ok, kSelf_no, ne_eq, reduceCtorEq, not_false_eq_true, r_isiR, kIsi_ok, r_ty, kTy_l, r_getF, kGetF_ok, kLk_ok, lk_yes, r_setF, r_itLl, kItL_ok, r_isL, kIsL_ok, r_lApp, kApp_ok, r_getI, kGetI_ok, r_getIT, r_setI, kSetI_ok, kStO_ok, r_while, r_bm0, kBM0_ok, r_lClear, kClear_ok, r_len, kLen_ok, len_tup, r_sl4, kSl4_ok, stepQ_nx, stepQ_ct, stepQ_bk, stepQ_rt, stepQ_xc,
  Res.bind_ok, Res.bind_exc, Res.bind_stuck,
  List.map_cons, List.map_nil, List.length_cons, List.length_nil, List.replicate_succ, List.replicate_zero, List.cons_append, List.nil_append, List.append_nil, List.set_cons_succ, List.set_cons_zero, List.getElem?_cons_succ, List.getElem?_cons_zero,
  Nat.reduceAdd, Nat.reduceSub, Nat.zero_add, Nat.sub_self, Bool.not_true, Bool.not_false, eq_self_iff_true, mk]
  obtain ⟨S4, hS4⟩ : ∃ S4, S4 = S3 ++ [.ins .Plain [(.row, .loc (S3.length + 1)), (.last_words, w)], .lst false fs] := ⟨_, rfl⟩
  rw [← hS4] at qp
  have i4 : isPlain S4 S3.length fs w := by rw [hS4]; exact plain_made
  have p4 : S3 <+: S4 := ⟨_, hS4.symm⟩
  have g4 := pfx_get p4 g3
  have h4 := pfx_get p4 h3
  have l3 : S3.length = S2.length + 1 := by rw [hS3]; simp
  obtain ⟨a, i4a, i4b⟩ := i4
  have ha : a = S3.length + 1 := by
    have := i4a
    rw [hS4, at_z] at this
    simp at this
    exact this.symm
  obtain ⟨S5, hS5⟩ : ∃ S5, S5 = S4.set S2.length (.lst false (fs ++ [.str "more"])) := ⟨_, rfl⟩
  have g5 : S5[S.length]? = some (.lst false fs) := by rw [hS5]; exact set_get_ne g4 (by omega)
  have i5 : S5[S3.length]? = some (.ins .Plain [(.row, .loc a), (.last_words, w)]) := by rw [hS5]; exact set_get_ne i4a (by omega)
  have i5b : S5[a]? = some (.lst false fs) := by rw [hS5]; exact set_get_ne i4b (by omega)
  have p5 : S <+: S5 := by rw [hS5]; exact pfx_set (p1.trans (p2.trans (p3.trans p4))) (by omega)
  have q5 := fields_spec i5 i5b
  obtain ⟨S6, hS6⟩ : ∃ S6, S6 = S5 ++ [O.lst false (fs ++ [.str "more"])] := ⟨_, rfl⟩
  have p6 : S5 <+: S6 := ⟨_, hS6.symm⟩
  have q6 := pholds_spec (pfx_get p6 i5) (pfx_get p6 i5b) hf (by omega)
  obtain ⟨S7, hS7⟩ : ∃ S7, S7 = S6 ++ [O.lst false (holdsOf fs ++ [.str "more"])] := ⟨_, rfl⟩
  have p7 : S5 <+: S7 := by rw [hS7]; exact pfx_app p6
  have i7 := pfx_get p7 i5
  have g7 := pfx_get p7 g5
  have i7b := pfx_get p7 i5b
  obtain ⟨S8, q8, p8⟩ := right_plain i7 i7b g7 hf (by omega) ow
  have p58 := p7.trans p8
  have g8 := pfx_get p58 g5
  have ip8 : isPlain S8 S3.length fs w := ⟨a, pfx_get p58 i5, pfx_get p58 i5b⟩
  have ll : fs.length < sizeLine := by rw [lt_line (by omega)]; trivial
  have lh : (holdsOf fs).length < sizeLine := by rw [lt_line (by have := holds_len (fs := fs); omega)]; trivial
  have iso7 := iso_ok i7 (.inr (.inl rfl))
  have s5 : (S5 ++ [O.lst false fs]).set S5.length (.lst false (fs ++ [.str "more"])) = S6 := by rw [set_last, hS6]
  have s6 : (S6 ++ [O.lst false (holdsOf fs)]).set S6.length (.lst false (holdsOf fs ++ [.str "more"])) = S7 := by rw [set_last, hS7]
  simp -implicitDefEqProofs only [r_var, kVar_ok, r_c, r_op2, kOpA_ok, kOpA_exc, kOpB_ok, kOpB_exc, r_test, r_asB, r_and, r_or, r_not, kAnd_t, kAnd_f, kAnd_exc, kOr_t, kOr_f, kOr_exc, kNot_ok, kNot_exc, r_mand, r_mor, r_mnot, kMAnd_t, kMAnd_f, kMOr_t, kMOr_f, kMNot_ok, r_ife, kIfE_t, kIfE_f, kIfE_exc,
  r_anil, r_acons, kArg_ok, kArg_exc, kArgs_ok, kArgs_exc, r_tup, r_lst, r_fld, r_call, kCall_ok, kCall_exc, r_call0, noX_ok, r_meth, kM1_ok, kM1_exc, kM2_ok, kM2_stuck, kM3_ok, kM3_exc, r_meth0, kN1_ok, kN1_exc, kN2_ok, kN2_stuck, r_make, kMake_ok, mkEnd_ok, r_cb, r_isi, r_bm, kBM1_ok, kBM2_ok, r_alt, kAlt_ok, kAlt_exc, kAlt_stuck,
  r_sl, kSl1_ok, kSl2_ok, kSl3_ok, r_ptN, r_ptS, optI_ok, r_nil, r_seq, kSeq_nx, kSeq_rt, kSeq_xc, kSeq_bk, kSeq_ct, r_clr, kClr_nx, kClr_rt, kClr_xc, kClr_bk, kClr_ct, clr_nil, clr_cons, r_set, kSet_ok, kSet_exc, r_expr, kExpr_ok, kExpr_exc, r_ret, kRet_ok, kRet_exc, r_retN, r_if, kSIf_t, kSIf_f, kSIf_exc, r_brk, r_cont, r_for, kFor_ok,
  kItA_ok, kIt_some, r_itL, r_itT, r_itS, r_itR1, r_itR2, r_itEn, r_asg, kAsg_ok, sTgO_some, tgM_nm, setAllM_nil, setAllM_cons, r_aug, kAug1_ok, kAug2_ok, r_fs, kFS1_ok, kFS2_ok, nxO_some, r_sl1, kSL1_ok, kSL2_ok, kSL3_ok, r_fnB, kFn_nx, kFn_rt, kFn_xc, r_lc, kLc_ok, r_yes, r_tgtp, kTg_ok, r_items, r_itemsT, kItems_ok, r_self, kSelf_ok, kSelf_no, ne_eq, reduceCtorEq, not_false_eq_true, r_isiR, kIsi_ok, r_ty, kTy_l, r_getF, kGetF_ok, kLk_ok, lk_yes, r_setF, r_itLl, kItL_ok, r_isL, kIsL_ok, r_lApp, kApp_ok, r_getI, kGetI_ok, r_getIT, r_setI, kSetI_ok, kStO_ok, r_while, r_bm0, kBM0_ok, r_lClear, kClear_ok, r_len, kLen_ok, len_tup, r_sl4, kSl4_ok, stepQ_nx, stepQ_ct, stepQ_bk, stepQ_rt, stepQ_xc,
  Res.bind_ok, Res.bind_exc, Res.bind_stuck,
  List.map_cons, List.map_nil, List.length_cons, List.length_nil, List.replicate_succ, List.replicate_zero, List.cons_append, List.nil_append, List.append_nil, List.set_cons_succ, List.set_cons_zero, List.getElem?_cons_succ, List.getElem?_cons_zero,
  Nat.reduceAdd, Nat.reduceSub, Nat.zero_add, Nat.sub_self, Bool.not_true, Bool.not_false, eq_self_iff_true, lstD_ok, Nat.reduceLeDiff, fd9, hB, mdB, fd5, md2, ← hS2, w2, hw, g2, cl2, qp, h4, kApp_ok ll, ← hS5, i5, q5, get_last, s5, pfx_get p6 i5, q6, kApp_ok lh, s6, r_iso, iso7, q8]
  clear hS2 hS3 hS4 hS5 hS6 hS7
  generalize hi : kClr _ _ = res
  obtain ⟨ρ, hρ⟩ : ∃ ρ : Rho, ρ = [some (.int c), some (.int N), some (.loc S.length), some w, some (.loc S2.length), some (.loc S3.length), none, none, none, none, none, none, none] := ⟨_, rfl⟩
  have hres : ∃ S9, S8 <+: S9 ∧ res = .nx ρ S9 := by
    rw [← hi]
    clear hi
    have nn := ne_nil (S := S8 ++ [O.lst false []]) (a := S.length) (b := S8.length) (fun x hx => (hf x hx).ok) (get_app g8) (get_last _ _)
    by_cases he : fs = []
    · rw [nn, decide_eq_true he]
      simp -implicitDefEqProofs only [r_var, kVar_ok, r_c, r_op2, kOpA_ok, kOpA_exc, kOpB_ok, kOpB_exc, r_test, r_asB, r_and, r_or, r_not, kAnd_t, kAnd_f, kAnd_exc, kOr_t, kOr_f, kOr_exc, kNot_ok, kNot_exc, r_mand, r_mor, r_mnot, kMAnd_t, kMAnd_f, kMOr_t, kMOr_f, kMNot_ok, r_ife, kIfE_t, kIfE_f, kIfE_exc,
  r_anil, r_acons, kArg_ok, kArg_exc, kArgs_ok, kArgs_exc, r_tup, r_lst, r_fld, r_call, kCall_ok, kCall_exc, r_call0, noX_ok, r_meth, kM1_ok, kM1_exc, kM2_ok, kM2_stuck, kM3_ok, kM3_exc, r_meth0, kN1_ok, kN1_exc, kN2_ok, kN2_stuck, r_make, kMake_ok, mkEnd_ok, r_cb, r_isi, r_bm, kBM1_ok, kBM2_ok, r_alt, kAlt_ok, kAlt_exc, kAlt_stuck,
  r_sl, kSl1_ok, kSl2_ok, kSl3_ok, r_ptN, r_ptS, optI_ok, r_nil, r_seq, kSeq_nx, kSeq_rt, kSeq_xc, kSeq_bk, kSeq_ct, r_clr, kClr_nx, kClr_rt, kClr_xc, kClr_bk, kClr_ct, clr_nil, clr_cons, r_set, kSet_ok, kSet_exc, r_expr, kExpr_ok, kExpr_exc, r_ret, kRet_ok, kRet_exc, r_retN, r_if, kSIf_t, kSIf_f, kSIf_exc, r_brk, r_cont, r_for, kFor_ok,
  kItA_ok, kIt_some, r_itL, r_itT, r_itS, r_itR1, r_itR2, r_itEn, r_asg, kAsg_ok, sTgO_some, tgM_nm, setAllM_nil, setAllM_cons, r_aug, kAug1_ok, kAug2_ok, r_fs, kFS1_ok, kFS2_ok, nxO_some, r_sl1, kSL1_ok, kSL2_ok, kSL3_ok, r_fnB, kFn_nx, kFn_rt, kFn_xc, r_lc, kLc_ok, r_yes, r_tgtp, kTg_ok, r_items, r_itemsT, kItems_ok, r_self, kSelf_ok, kSelf_no, ne_eq, reduceCtorEq, not_false_eq_true, r_isiR, kIsi_ok, r_ty, kTy_l, r_getF, kGetF_ok, kLk_ok, lk_yes, r_setF, r_itLl, kItL_ok, r_isL, kIsL_ok, r_lApp, kApp_ok, r_getI, kGetI_ok, r_getIT, r_setI, kSetI_ok, kStO_ok, r_while, r_bm0, kBM0_ok, r_lClear, kClear_ok, r_len, kLen_ok, len_tup, r_sl4, kSl4_ok, stepQ_nx, stepQ_ct, stepQ_bk, stepQ_rt, stepQ_xc,
  Res.bind_ok, Res.bind_exc, Res.bind_stuck,
  List.map_cons, List.map_nil, List.length_cons, List.length_nil, List.replicate_succ, List.replicate_zero, List.cons_append, List.nil_append, List.append_nil, List.set_cons_succ, List.set_cons_zero, List.getElem?_cons_succ, List.getElem?_cons_zero,
  Nat.reduceAdd, Nat.reduceSub, Nat.zero_add, Nat.sub_self, Bool.not_true, Bool.not_false, eq_self_iff_true, hρ]
      exact ⟨S8 ++ [.lst false []], ⟨_, rfl⟩, rfl⟩
    · rw [nn, decide_eq_false he]
      have hpos : 0 < fs.length := List.length_pos_iff.mpr he
      obtain ⟨i, hi, il⟩ : ∃ i : Nat, N / 7 % (fs.length : Int) = (i : Int) ∧ i < fs.length := by
        have h1 := Int.emod_nonneg (N / 7) (show (fs.length : Int) ≠ 0 by omega)
        have h2 := Int.emod_lt_of_pos (N / 7) (show (0 : Int) < (fs.length : Int) by omega)
        exact ⟨(N / 7 % (fs.length : Int)).toNat, by omega, by omega⟩
      have mi := md (N / 7) (fs.length : Int) (by omega)
      obtain ⟨l', S10, qw, p10, ip⟩ := with_field_spec (i := i) (v := .tup [.str "thing", .int 7]) (ip8.pre (S' := S8 ++ [O.lst false []]) ⟨_, rfl⟩) (by omega)
      have vf : isField (.tup [.str "thing", .int 7]) := .inr (.inr ⟨7, rfl⟩)
      have g10 : S10[S.length]? = some (.lst false fs) := pfx_get p10 (get_app g8)
      have c1 : cutD fs none (some (i : Int)) = fs.take i := cut_to
      have c2 : cutD fs (some ((i : Int) + 1)) none = fs.drop (i + 1) := by rw [show (i : Int) + 1 = ((i + 1 : Nat) : Int) from rfl, cut_from]
      obtain ⟨Sb, Sc, a1, pb, lb, a2, pc, gc⟩ := splice_ev (S := S10) (fs := fs) (i := i) (v := .tup [.str "thing", .int 7]) (by omega)
      have n1 : (S10 ++ [O.lst false (fs.take i)]).length = S10.length + 1 := by simp
      obtain ⟨a', j1, j2⟩ := ip.pre pc
      obtain ⟨S11, q11, p11⟩ := right_plain j1 j2 gc (spl_field hf vf) (by rw [spl_len il]; omega) ow
      have x8 : (S8 ++ [O.lst false []])[S3.length]? = some (.ins .Plain [(.row, .loc a), (.last_words, w)]) := get_app (pfx_get p58 i5)
      simp -implicitDefEqProofs only [r_var, kVar_ok, r_c, r_op2, kOpA_ok, kOpA_exc, kOpB_ok, kOpB_exc, r_test, r_asB, r_and, r_or, r_not, kAnd_t, kAnd_f, kAnd_exc, kOr_t, kOr_f, kOr_exc, kNot_ok, kNot_exc, r_mand, r_mor, r_mnot, kMAnd_t, kMAnd_f, kMOr_t, kMOr_f, kMNot_ok, r_ife, kIfE_t, kIfE_f, kIfE_exc,
  r_anil, r_acons, kArg_ok, kArg_exc, kArgs_ok, kArgs_exc, r_tup, r_lst, r_fld, r_call, kCall_ok, kCall_exc, r_call0, noX_ok, r_meth, kM1_ok, kM1_exc, kM2_ok, kM2_stuck, kM3_ok, kM3_exc, r_meth0, kN1_ok, kN1_exc, kN2_ok, kN2_stuck, r_make, kMake_ok, mkEnd_ok, r_cb, r_isi, r_bm, kBM1_ok, kBM2_ok, r_alt, kAlt_ok, kAlt_exc, kAlt_stuck,
  r_sl, kSl1_ok, kSl2_ok, kSl3_ok, r_ptN, r_ptS, optI_ok, r_nil, r_seq, kSeq_nx, kSeq_rt, kSeq_xc, kSeq_bk, kSeq_ct, r_clr, kClr_nx, kClr_rt, kClr_xc, kClr_bk, kClr_ct, clr_nil, clr_cons, r_set, kSet_ok, kSet_exc, r_expr, kExpr_ok, kExpr_exc, r_ret, kRet_ok, kRet_exc, r_retN, r_if, kSIf_t, kSIf_f, kSIf_exc, r_brk, r_cont, r_for, kFor_ok,
  kItA_ok, kIt_some, r_itL, r_itT, r_itS, r_itR1, r_itR2, r_itEn, r_asg, kAsg_ok, sTgO_some, tgM_nm, setAllM_nil, setAllM_cons, r_aug, kAug1_ok, kAug2_ok, r_fs, kFS1_ok, kFS2_ok, nxO_some, r_sl1, kSL1_ok, kSL2_ok, kSL3_ok, r_fnB, kFn_nx, kFn_rt, kFn_xc, r_lc, kLc_ok, r_yes, r_tgtp, kTg_ok, r_items, r_itemsT, kItems_ok, r_self, kSelf_ok, kSelf_no, ne_eq, reduceCtorEq, not_false_eq_true, r_isiR, kIsi_ok, r_ty, kTy_l, r_getF, kGetF_ok, kLk_ok, lk_yes, r_setF, r_itLl, kItL_ok, r_isL, kIsL_ok, r_lApp, kApp_ok, r_getI, kGetI_ok, r_getIT, r_setI, kSetI_ok, kStO_ok, r_while, r_bm0, kBM0_ok, r_lClear, kClear_ok, r_len, kLen_ok, len_tup, r_sl4, kSl4_ok, stepQ_nx, stepQ_ct, stepQ_bk, stepQ_rt, stepQ_xc,
  Res.bind_ok, Res.bind_exc, Res.bind_stuck,
  List.map_cons, List.map_nil, List.length_cons, List.length_nil, List.replicate_succ, List.replicate_zero, List.cons_append, List.nil_append, List.append_nil, List.set_cons_succ, List.set_cons_zero, List.getElem?_cons_succ, List.getElem?_cons_zero,
  Nat.reduceAdd, Nat.reduceSub, Nat.zero_add, Nat.sub_self, Bool.not_true, Bool.not_false, eq_self_iff_true, fd7, get_app g8, mi, hi, x8, tupD_ok, Nat.reduceLeDiff, qw, g10, c1, lstD_ok, n1, a1, pfx_get pb g10, add_int, addI_int, c2, lb, a2, q11, hρ]
      exact ⟨S11, (List.IsPrefix.trans ⟨_, rfl⟩ p10).trans (pc.trans p11), rfl⟩
  obtain ⟨S9, p9, rfl⟩ := hres
  have g9 := pfx_get p9 g8
  have ip9 := ip8.pre p9
  obtain ⟨l5, Sd, q5, pd5, ip5⟩ := with_words_spec (u := .int 5) ip9
  obtain ⟨a5, j5, k5⟩ := ip5
  obtain ⟨Se, qe, pe⟩ := right_plain j5 k5 (pfx_get pd5 g9) hf (by omega) (okf_int 5)
  have ge := pfx_get (pd5.trans pe) g9
  have ipe := ip9.pre (pd5.trans pe)
  obtain ⟨l6, Sf, q6', pf6, ip6⟩ := with_words_spec (u := .non) ipe
  obtain ⟨a6, j6, k6⟩ := ip6
  obtain ⟨Sg, qg, pg⟩ := right_plain j6 k6 (pfx_get pf6 ge) hf (by omega) okf_non
  have pSg : S9 <+: Sg := pd5.trans (pe.trans (pf6.trans pg))
  have gg := pfx_get pSg g9
  have ipg := ip9.pre pSg
  obtain ⟨key, hkey, fkey⟩ : ∃ key, (∀ S, kLk (atI [D.tup [.str "thing", .int (N % 50)], .tup [.str "nothing"]] (N / 11 % 2)) S = .ok key S) ∧ isField key := by
    have : N / 11 % 2 = 0 ∨ N / 11 % 2 = 1 := by omega
    rcases this with h | h <;> rw [h]
    · exact ⟨_, fun _ => rfl, .inr (.inr ⟨_, rfl⟩)⟩
    · exact ⟨_, fun _ => rfl, .inl rfl⟩
  obtain ⟨Sh, hSh⟩ : ∃ Sh, Sh = Sg ++ [O.lst false [.tup [.str "thing", .int (N % 50)], .tup [.str "nothing"]]] := ⟨_, rfl⟩
  have gh : Sh[Sg.length]? = some (.lst false [.tup [.str "thing", .int (N % 50)], .tup [.str "nothing"]]) := by rw [hSh]; exact get_last _ _
  have ph : Sg <+: Sh := ⟨_, hSh.symm⟩
  obtain ⟨val, T, fval, qv⟩ := value_by_spec (n := N / 13) (Nat.lt_of_lt_of_le (div_lt_pow (by decide) N1) (Nat.pow_le_pow_right (by decide) (by decide))) Sh
  obtain ⟨Si, hSi⟩ : ∃ Si, Si = Sh ++ T := ⟨_, rfl⟩
  rw [← hSi] at qv
  have pi : Sh <+: Si := ⟨_, hSi.symm⟩
  have qk := weak_spec (k := key) Si
  obtain ⟨Sj, hSj⟩ : ∃ Sj, Sj = Si ++ [.lst false [key], .ins .Thing [(.row, .loc (Si.length + 2))], .lst false [key]] := ⟨_, rfl⟩
  have t1 : Sj[Si.length + 1]? = some (.ins .Thing [(.row, .loc (Si.length + 2))]) := by rw [hSj, at_k]; rfl
  have t2 : Sj[Si.length + 2]? = some (.lst false [key]) := by rw [hSj, at_k]; rfl
  rw [← hSj] at qk
  have pj : Si <+: Sj := ⟨_, hSj.symm⟩
  have ql := pair_spec (k := key) (v := val) Sj
  obtain ⟨Sk, hSk⟩ : ∃ Sk, Sk = Sj ++ [.lst false [key, val], .ins .Pair [(.row, .loc (Sj.length + 2))], .lst false [key, val]] := ⟨_, rfl⟩
  have u1 : Sk[Sj.length + 1]? = some (.ins .Pair [(.row, .loc (Sj.length + 2))]) := by rw [hSk, at_k]; rfl
  have u2 : Sk[Sj.length + 2]? = some (.lst false [key, val]) := by rw [hSk, at_k]; rfl
  rw [← hSk] at ql
  have pk : Sj <+: Sk := ⟨_, hSk.symm⟩
  have qm := pw_spec u1 u2 fkey
  obtain ⟨Sm, hSm⟩ : ∃ Sm, Sm = Sk ++ [O.lst false (waitsOf key val ++ [.str "more"])] := ⟨_, rfl⟩
  have pm : Sk <+: Sm := ⟨_, hSm.symm⟩
  have sm : (Sk ++ [O.lst false (waitsOf key val)]).set Sk.length (.lst false (waitsOf key val ++ [.str "more"])) = Sm := by rw [set_last, hSm]
  have lw : (waitsOf key val).length < sizeLine := by
    rw [lt_line]
    · trivial
    · unfold waitsOf; split <;> simp
  have pgm : Sg <+: Sm := ph.trans (pi.trans (pj.trans (pk.trans pm)))
  have gm := pfx_get pgm gg
  obtain ⟨am, m1, m2⟩ := ipg.pre pgm
  obtain ⟨Sn, qn, pn⟩ := right_plain m1 m2 gm hf (by omega) ow
  have pjn : Sj <+: Sn := pk.trans (pm.trans pn)
  have pkn : Sk <+: Sn := pm.trans pn
  obtain ⟨So, qo, po⟩ := right_weak (S := Sn ++ [O.lst false [key]]) (fs := [key]) (get_app (pfx_get pjn t1)) (get_app (pfx_get pjn t2)) (get_last _ _) (fun x hx => by rw [List.mem_singleton.mp hx]; exact fkey) (by simp)
  have pno : Sn <+: So := List.IsPrefix.trans ⟨_, rfl⟩ po
  obtain ⟨Sp, qp', pp⟩ := right_pair (S := So ++ [O.lst false [key, val]]) (get_app (pfx_get (pkn.trans pno) u1)) (get_app (pfx_get (pkn.trans pno) u2)) (get_last _ _) fkey fval
  have iso1 := iso_ok (pfx_get (pk.trans pm) t1) (.inl rfl)
  have iso2 := iso_ok (pfx_get pm u1) (.inr (.inr rfl))
  obtain ⟨a9, x9, y9⟩ := ip9
  obtain ⟨ae, xe, ye⟩ := ipe
  simp -implicitDefEqProofs only [r_var, kVar_ok, r_c, r_op2, kOpA_ok, kOpA_exc, kOpB_ok, kOpB_exc, r_test, r_asB, r_and, r_or, r_not, kAnd_t, kAnd_f, kAnd_exc, kOr_t, kOr_f, kOr_exc, kNot_ok, kNot_exc, r_mand, r_mor, r_mnot, kMAnd_t, kMAnd_f, kMOr_t, kMOr_f, kMNot_ok, r_ife, kIfE_t, kIfE_f, kIfE_exc,
  r_anil, r_acons, kArg_ok, kArg_exc, kArgs_ok, kArgs_exc, r_tup, r_lst, r_fld, r_call, kCall_ok, kCall_exc, r_call0, noX_ok, r_meth, kM1_ok, kM1_exc, kM2_ok, kM2_stuck, kM3_ok, kM3_exc, r_meth0, kN1_ok, kN1_exc, kN2_ok, kN2_stuck, r_make, kMake_ok, mkEnd_ok, r_cb, r_isi, r_bm, kBM1_ok, kBM2_ok, r_alt, kAlt_ok, kAlt_exc, kAlt_stuck,
  r_sl, kSl1_ok, kSl2_ok, kSl3_ok, r_ptN, r_ptS, optI_ok, r_nil, r_seq, kSeq_nx, kSeq_rt, kSeq_xc, kSeq_bk, kSeq_ct, r_clr, kClr_nx, kClr_rt, kClr_xc, kClr_bk, kClr_ct, clr_nil, clr_cons, r_set, kSet_ok, kSet_exc, r_expr, kExpr_ok, kExpr_exc, r_ret, kRet_ok, kRet_exc, r_retN, r_if, kSIf_t, kSIf_f, kSIf_exc, r_brk, r_cont, r_for, kFor_ok,
  kItA_ok, kIt_some, r_itL, r_itT, r_itS, r_itR1, r_itR2, r_itEn, r_asg, kAsg_ok, sTgO_some, tgM_nm, setAllM_nil, setAllM_cons, r_aug, kAug1_ok, kAug2_ok, r_fs, kFS1_ok, kFS2_ok, nxO_some, r_sl1, kSL1_ok, kSL2_ok, kSL3_ok, r_fnB, kFn_nx, kFn_rt, kFn_xc, r_lc, kLc_ok, r_yes, r_tgtp, kTg_ok, r_items, r_itemsT, kItems_ok, r_self, kSelf_ok, kSelf_no, ne_eq, reduceCtorEq, not_false_eq_true, r_isiR, kIsi_ok, r_ty, kTy_l, r_getF, kGetF_ok, kLk_ok, lk_yes, r_setF, r_itLl, kItL_ok, r_isL, kIsL_ok, r_lApp, kApp_ok, r_getI, kGetI_ok, r_getIT, r_setI, kSetI_ok, kStO_ok, r_while, r_bm0, kBM0_ok, r_lClear, kClear_ok, r_len, kLen_ok, len_tup, r_sl4, kSl4_ok, stepQ_nx, stepQ_ct, stepQ_bk, stepQ_rt, stepQ_xc,
  Res.bind_ok, Res.bind_exc, Res.bind_stuck,
  List.map_cons, List.map_nil, List.length_cons, List.length_nil, List.replicate_succ, List.replicate_zero, List.cons_append, List.nil_append, List.append_nil, List.set_cons_succ, List.set_cons_zero, List.getElem?_cons_succ, List.getElem?_cons_zero,
  Nat.reduceAdd, Nat.reduceSub, Nat.zero_add, Nat.sub_self, Bool.not_true, Bool.not_false, eq_self_iff_true, hρ, x9, q5, qe, xe, q6', qg, md50, tupD_ok, lstD_ok, Nat.reduceLeDiff, ← hSh, gh, fd11, md2, hkey, fd13, qv, qk, ql, u1, kSelf_ok, qm, get_last, kApp_ok lw, sm, r_iso, iso1, iso2, qn, qo, qp']
  exact ⟨Sp, rfl, p5.trans (p58.trans (p9.trans (pSg.trans (pgm.trans (pn.trans (pno.trans (List.IsPrefix.trans ⟨_, rfl⟩ pp)))))))⟩
theorem law_zero {ns : List Int} (hlen : ns.length ≤ 63) (hb : ∀ z ∈ ns, Builtin.Int.intBits z ≤ 1048576) : ∃ (B : Sto) (xs : List Int), addD (.loc 1) (.loc 0) (scriptS ns ++ [O.lst false [.int 0]]) = .ok (.loc 2) B ∧ (∀ c ∈ xs, c.natAbs < 2 ^ 1048576) ∧ B[2]? = some (.lst false (xs.map .int)) ∧ B[0]? = some (.lst true (ns.map .int)) ∧ xs.length ≤ 64 := by
  have h0 : (scriptS ns ++ [O.lst false [.int 0]])[0]? = some (.lst true (ns.map .int)) := rfl
  have h1 : (scriptS ns ++ [O.lst false [.int 0]])[1]? = some (.lst false [.int 0]) := rfl
  refine ⟨scriptS ns ++ [O.lst false [.int 0], .lst false ((0 :: ns).map .int)], 0 :: ns, ?_, ?_, rfl, rfl, by simp; omega⟩
  · rw [r_addL, h0, h1, kAdd_ok (by rw [le_line (by simp; omega)]; trivial)]
    rfl
  · intro c hc
    rcases List.mem_cons.mp hc with rfl | hc
    · exact Nat.two_pow_pos _
    · exact bits_lt (hb c hc)
theorem law_true : ∀ ns : List Int, ns.length ≤ 63 → (∀ z ∈ ns, Builtin.Int.intBits z ≤ 1048576) → ∃ S', f_law [.loc 0] (scriptS ns) = .ok (.bl true) S' := by
  intro ns hlen hb
  obtain ⟨B, xs, hadd, hc, h2, h3, hl⟩ := law_zero hlen hb
  have e1 : (scriptS ns).length = 1 := rfl
  unfold f_law b_law
  simp -implicitDefEqProofs only [r_var, kVar_ok, r_c, r_op2, kOpA_ok, kOpA_exc, kOpB_ok, kOpB_exc, r_test, r_asB, r_and, r_or, r_not, kAnd_t, kAnd_f, kAnd_exc, kOr_t, kOr_f, kOr_exc, kNot_ok, kNot_exc, r_mand, r_mor, r_mnot, kMAnd_t, kMAnd_f, kMOr_t, kMOr_f, kMNot_ok, r_ife, kIfE_t, kIfE_f, kIfE_exc,
  r_anil, r_acons, kArg_ok, kArg_exc, kArgs_ok, kArgs_exc, r_tup, r_lst, r_fld, r_call, kCall_ok, kCall_exc, r_call0, noX_ok, r_meth, kM1_ok, kM1_exc, kM2_ok, kM2_stuck, kM3_ok, kM3_exc, r_meth0, kN1_ok, kN1_exc, kN2_ok, kN2_stuck, r_make, kMake_ok, mkEnd_ok, r_cb, r_isi, r_bm, kBM1_ok, kBM2_ok, r_alt, kAlt_ok, kAlt_exc, kAlt_stuck,
  r_sl, kSl1_ok, kSl2_ok, kSl3_ok, r_ptN, r_ptS, optI_ok, r_nil, r_seq, kSeq_nx, kSeq_rt, kSeq_xc, kSeq_bk, kSeq_ct, r_clr, kClr_nx, kClr_rt, kClr_xc, kClr_bk, kClr_ct, clr_nil, clr_cons, r_set, kSet_ok, kSet_exc, r_expr, kExpr_ok, kExpr_exc, r_ret, kRet_ok, kRet_exc, r_retN, r_if, kSIf_t, kSIf_f, kSIf_exc, r_brk, r_cont, r_for, kFor_ok,
  kItA_ok, kIt_some, r_itL, r_itT, r_itS, r_itR1, r_itR2, r_itEn, r_asg, kAsg_ok, sTgO_some, tgM_nm, setAllM_nil, setAllM_cons, r_aug, kAug1_ok, kAug2_ok, r_fs, kFS1_ok, kFS2_ok, nxO_some, r_sl1, kSL1_ok, kSL2_ok, kSL3_ok, r_fnB, kFn_nx, kFn_rt, kFn_xc, r_lc, kLc_ok, r_yes, r_tgtp, kTg_ok, r_items, r_itemsT, kItems_ok, r_self, kSelf_ok, kSelf_no, ne_eq, reduceCtorEq, not_false_eq_true, r_isiR, kIsi_ok, r_ty, kTy_l, r_getF, kGetF_ok, kLk_ok, lk_yes, r_setF, r_itLl, kItL_ok, r_isL, kIsL_ok, r_lApp, kApp_ok, r_getI, kGetI_ok, r_getIT, r_setI, kSetI_ok, kStO_ok, r_while, r_bm0, kBM0_ok, r_lClear, kClear_ok, r_len, kLen_ok, len_tup, r_sl4, kSl4_ok, stepQ_nx, stepQ_ct, stepQ_bk, stepQ_rt, stepQ_xc,
  Res.bind_ok, Res.bind_exc, Res.bind_stuck,
  List.map_cons, List.map_nil, List.length_cons, List.length_nil, List.replicate_succ, List.replicate_zero, List.cons_append, List.nil_append, List.append_nil, List.set_cons_succ, List.set_cons_zero, List.getElem?_cons_succ, List.getElem?_cons_zero,
  Nat.reduceAdd, Nat.reduceSub, Nat.zero_add, Nat.sub_self, Bool.not_true, Bool.not_false, eq_self_iff_true, lstD_ok, Nat.reduceLeDiff, e1, hadd, h2]
  generalize hf : forGo _ _ _ _ _ _ _ = r
  have hr : ∃ S', r = .nx [some (.loc 0), none] S' := by
    refine forL hf (xs.map .int) (fun _ ρ S => ρ = [some (.loc 0), none] ∧ B <+: S) (fun r => ∃ S', r = .nx [some (.loc 0), none] S') (by omega) ⟨rfl, List.prefix_rfl⟩ ?_ ?_ ?_
    · rintro i ρ S ⟨rfl, p⟩
      exact ⟨_, pfx_get p h2⟩
    · rintro i x ρ S e ⟨rfl, p⟩
      rw [List.getElem?_map] at e
      obtain ⟨c, es, rfl⟩ := Option.map_eq_some_iff.mp e
      refine ⟨_, rfl, ?_⟩
      obtain ⟨S', q, p'⟩ := holds_spec (hc _ (List.mem_of_getElem? es)) S
      simp -implicitDefEqProofs only [r_var, kVar_ok, r_c, r_op2, kOpA_ok, kOpA_exc, kOpB_ok, kOpB_exc, r_test, r_asB, r_and, r_or, r_not, kAnd_t, kAnd_f, kAnd_exc, kOr_t, kOr_f, kOr_exc, kNot_ok, kNot_exc, r_mand, r_mor, r_mnot, kMAnd_t, kMAnd_f, kMOr_t, kMOr_f, kMNot_ok, r_ife, kIfE_t, kIfE_f, kIfE_exc,
  r_anil, r_acons, kArg_ok, kArg_exc, kArgs_ok, kArgs_exc, r_tup, r_lst, r_fld, r_call, kCall_ok, kCall_exc, r_call0, noX_ok, r_meth, kM1_ok, kM1_exc, kM2_ok, kM2_stuck, kM3_ok, kM3_exc, r_meth0, kN1_ok, kN1_exc, kN2_ok, kN2_stuck, r_make, kMake_ok, mkEnd_ok, r_cb, r_isi, r_bm, kBM1_ok, kBM2_ok, r_alt, kAlt_ok, kAlt_exc, kAlt_stuck,
  r_sl, kSl1_ok, kSl2_ok, kSl3_ok, r_ptN, r_ptS, optI_ok, r_nil, r_seq, kSeq_nx, kSeq_rt, kSeq_xc, kSeq_bk, kSeq_ct, r_clr, kClr_nx, kClr_rt, kClr_xc, kClr_bk, kClr_ct, clr_nil, clr_cons, r_set, kSet_ok, kSet_exc, r_expr, kExpr_ok, kExpr_exc, r_ret, kRet_ok, kRet_exc, r_retN, r_if, kSIf_t, kSIf_f, kSIf_exc, r_brk, r_cont, r_for, kFor_ok,
  kItA_ok, kIt_some, r_itL, r_itT, r_itS, r_itR1, r_itR2, r_itEn, r_asg, kAsg_ok, sTgO_some, tgM_nm, setAllM_nil, setAllM_cons, r_aug, kAug1_ok, kAug2_ok, r_fs, kFS1_ok, kFS2_ok, nxO_some, r_sl1, kSL1_ok, kSL2_ok, kSL3_ok, r_fnB, kFn_nx, kFn_rt, kFn_xc, r_lc, kLc_ok, r_yes, r_tgtp, kTg_ok, r_items, r_itemsT, kItems_ok, r_self, kSelf_ok, kSelf_no, ne_eq, reduceCtorEq, not_false_eq_true, r_isiR, kIsi_ok, r_ty, kTy_l, r_getF, kGetF_ok, kLk_ok, lk_yes, r_setF, r_itLl, kItL_ok, r_isL, kIsL_ok, r_lApp, kApp_ok, r_getI, kGetI_ok, r_getIT, r_setI, kSetI_ok, kStO_ok, r_while, r_bm0, kBM0_ok, r_lClear, kClear_ok, r_len, kLen_ok, len_tup, r_sl4, kSl4_ok, stepQ_nx, stepQ_ct, stepQ_bk, stepQ_rt, stepQ_xc,
  Res.bind_ok, Res.bind_exc, Res.bind_stuck,
  List.map_cons, List.map_nil, List.length_cons, List.length_nil, List.replicate_succ, List.replicate_zero, List.cons_append, List.nil_append, List.append_nil, List.set_cons_succ, List.set_cons_zero, List.getElem?_cons_succ, List.getElem?_cons_zero,
  Nat.reduceAdd, Nat.reduceSub, Nat.zero_add, Nat.sub_self, Bool.not_true, Bool.not_false, eq_self_iff_true, q]
      exact ⟨trivial, p.trans p'⟩
    · rintro ρ S ⟨rfl, p⟩
      exact ⟨_, rfl⟩
  obtain ⟨S', rfl⟩ := hr
  simp -implicitDefEqProofs only [r_var, kVar_ok, r_c, r_op2, kOpA_ok, kOpA_exc, kOpB_ok, kOpB_exc, r_test, r_asB, r_and, r_or, r_not, kAnd_t, kAnd_f, kAnd_exc, kOr_t, kOr_f, kOr_exc, kNot_ok, kNot_exc, r_mand, r_mor, r_mnot, kMAnd_t, kMAnd_f, kMOr_t, kMOr_f, kMNot_ok, r_ife, kIfE_t, kIfE_f, kIfE_exc,
  r_anil, r_acons, kArg_ok, kArg_exc, kArgs_ok, kArgs_exc, r_tup, r_lst, r_fld, r_call, kCall_ok, kCall_exc, r_call0, noX_ok, r_meth, kM1_ok, kM1_exc, kM2_ok, kM2_stuck, kM3_ok, kM3_exc, r_meth0, kN1_ok, kN1_exc, kN2_ok, kN2_stuck, r_make, kMake_ok, mkEnd_ok, r_cb, r_isi, r_bm, kBM1_ok, kBM2_ok, r_alt, kAlt_ok, kAlt_exc, kAlt_stuck,
  r_sl, kSl1_ok, kSl2_ok, kSl3_ok, r_ptN, r_ptS, optI_ok, r_nil, r_seq, kSeq_nx, kSeq_rt, kSeq_xc, kSeq_bk, kSeq_ct, r_clr, kClr_nx, kClr_rt, kClr_xc, kClr_bk, kClr_ct, clr_nil, clr_cons, r_set, kSet_ok, kSet_exc, r_expr, kExpr_ok, kExpr_exc, r_ret, kRet_ok, kRet_exc, r_retN, r_if, kSIf_t, kSIf_f, kSIf_exc, r_brk, r_cont, r_for, kFor_ok,
  kItA_ok, kIt_some, r_itL, r_itT, r_itS, r_itR1, r_itR2, r_itEn, r_asg, kAsg_ok, sTgO_some, tgM_nm, setAllM_nil, setAllM_cons, r_aug, kAug1_ok, kAug2_ok, r_fs, kFS1_ok, kFS2_ok, nxO_some, r_sl1, kSL1_ok, kSL2_ok, kSL3_ok, r_fnB, kFn_nx, kFn_rt, kFn_xc, r_lc, kLc_ok, r_yes, r_tgtp, kTg_ok, r_items, r_itemsT, kItems_ok, r_self, kSelf_ok, kSelf_no, ne_eq, reduceCtorEq, not_false_eq_true, r_isiR, kIsi_ok, r_ty, kTy_l, r_getF, kGetF_ok, kLk_ok, lk_yes, r_setF, r_itLl, kItL_ok, r_isL, kIsL_ok, r_lApp, kApp_ok, r_getI, kGetI_ok, r_getIT, r_setI, kSetI_ok, kStO_ok, r_while, r_bm0, kBM0_ok, r_lClear, kClear_ok, r_len, kLen_ok, len_tup, r_sl4, kSl4_ok, stepQ_nx, stepQ_ct, stepQ_bk, stepQ_rt, stepQ_xc,
  Res.bind_ok, Res.bind_exc, Res.bind_stuck,
  List.map_cons, List.map_nil, List.length_cons, List.length_nil, List.replicate_succ, List.replicate_zero, List.cons_append, List.nil_append, List.append_nil, List.set_cons_succ, List.set_cons_zero, List.getElem?_cons_succ, List.getElem?_cons_zero,
  Nat.reduceAdd, Nat.reduceSub, Nat.zero_add, Nat.sub_self, Bool.not_true, Bool.not_false, eq_self_iff_true]
  exact ⟨_, rfl⟩
end MP

set_option Elab.async false
set_option linter.all false
set_option maxRecDepth 100000
set_option maxHeartbeats 4000000
open PySem PySem.W PyProof.Rows
set_option maxRecDepth 100000 in
set_option maxHeartbeats 0 in
theorem PySem.Challenge.cw_heapsafe_k10_what_things_hold_holds : PySem.Challenge.rw_heapsafe_k10_what_things_hold.Holds := by
  w_on; o_law; k_head; (case hw => w_witness2)
  k_fill
  refine MP.walk (l := PySem.Challenge.rw_heapsafe_k10_what_things_hold) rfl rfl MP.law_true (fun w h Y => PySem.W.kIn_of Y) ?F
  case F =>
    intro w mg fa h KX Gn hmg
    refine' MP.all_mk KX Gn hmg ?aC_Pair ?pg_Pair ?hd_Pair ?po_Pair ?sa_Pair ?mk_Pair ?kc_Pair ?n_Pair_row ?aC_Plain ?pg_Plain ?hd_Plain ?po_Plain ?sa_Plain ?mk_Plain ?kc_Plain ?n_Plain_row ?n_Plain_last_words ?aC_Thing ?pg_Thing ?hd_Thing ?po_Thing ?sa_Thing ?mk_Thing ?kc_Thing ?n_Thing_row ?g_law_alike ?l_law_alike ?c_law_alike1 ?k_law_alike ?l_Pair_sort_of ?c_Pair_sort_of1 ?k_Pair_sort_of ?i_Pair_sort_of ?g_is_thing ?l_is_thing ?c_is_thing1 ?k_is_thing ?l_Pair_waits ?c_Pair_waits1 ?k_Pair_waits ?i_Pair_waits ?l_Plain_holds ?c_Plain_holds1 ?k_Plain_holds ?i_Plain_holds ?l_Plain_sort_of ?c_Plain_sort_of1 ?k_Plain_sort_of ?i_Plain_sort_of ?l_Plain_words ?c_Plain_words1 ?k_Plain_words ?i_Plain_words ?l_Thing_fields ?c_Thing_fields1 ?k_Thing_fields ?i_Thing_fields ?l_Thing_holds ?c_Thing_holds1 ?k_Thing_holds ?i_Thing_holds ?l_Thing_sort_of ?c_Thing_sort_of1 ?k_Thing_sort_of ?i_Thing_sort_of ?l_Thing_waits ?c_Thing_waits1 ?k_Thing_waits ?i_Thing_waits ?l_Thing_words ?c_Thing_words1 ?k_Thing_words ?i_Thing_words ?g_law_right ?l_law_right ?c_law_right1 ?k_law_right ?g_law_value_by ?l_law_value_by ?c_law_value_by1 ?k_law_value_by ?l_Thing_init ?c_Thing_init1 ?k_Thing_init ?i_Thing_init ?g_pair ?l_pair ?c_pair1 ?k_pair ?l_Plain_init ?c_Plain_init1 ?k_Plain_init ?i_Plain_init ?g_plain ?l_plain ?c_plain1 ?k_plain ?g_weak ?l_weak ?c_weak1 ?k_weak ?l_Plain_with_field ?c_Plain_with_field1 ?k_Plain_with_field ?i_Plain_with_field ?l_Plain_with_words ?c_Plain_with_words1 ?k_Plain_with_words ?i_Plain_with_words ?g_law_holds ?l_law_holds ?c_law_holds1 ?k_law_holds ?g_law ?l_law ?c_law1 ?k_law ?f_Pair_init1 ?f_Pair_fields1 ?f_Pair_holds1 ?f_Pair_sort_of1 ?f_Pair_waits1 ?f_Pair_words1 ?f_Plain_init1 ?f_Plain_fields1 ?f_Plain_holds1 ?f_Plain_sort_of1 ?f_Plain_waits1 ?f_Plain_with_field1 ?f_Plain_with_words1 ?f_Plain_words1 ?f_Thing_init1 ?f_Thing_fields1 ?f_Thing_holds1 ?f_Thing_sort_of1 ?f_Thing_waits1 ?f_Thing_words1 ?rd_Thing ?ga_Thing ?u_Thing_init ?hn_cls ?tk_cls ?cc_Pair ?mo_Pair ?cc_Plain ?mo_Plain ?cc_Thing ?mo_Thing ?ki_Pair_Thing ?ki_Plain_Thing ?ki_Thing_Thing ?kt_Thing_NoneType ?kt_Thing_bool ?kt_Thing_int ?kt_Thing_str ?kt_Thing_tuple ?kt_Thing_list ?kt_Thing_dict ?z_abs ?z_bool ?z_dict ?z_int ?z_isinstance ?z_len ?z_list ?z_range ?z_str ?z_tuple MP.law_true
    (case aC_Pair => k_is)
    (case aC_Plain => k_is)
    (case aC_Thing => k_is)
    (case f_Pair_init1 => k_is)
    (case f_Pair_fields1 => k_is)
    (case f_Pair_holds1 => k_is)
    (case f_Pair_sort_of1 => k_is)
    (case f_Pair_waits1 => k_is)
    (case f_Pair_words1 => k_is)
    (case f_Plain_init1 => k_is)
    (case f_Plain_fields1 => k_is)
    (case f_Plain_holds1 => k_is)
    (case f_Plain_sort_of1 => k_is)
    (case f_Plain_waits1 => k_is)
    (case f_Plain_with_field1 => k_is)
    (case f_Plain_with_words1 => k_is)
    (case f_Plain_words1 => k_is)
    (case f_Thing_init1 => k_is)
    (case f_Thing_fields1 => k_is)
    (case f_Thing_holds1 => k_is)
    (case f_Thing_sort_of1 => k_is)
    (case f_Thing_waits1 => k_is)
    (case f_Thing_words1 => k_is)
    (case u_Thing_init => k_is)
    (case pg_Pair => k_is)
    (case hd_Pair => k_is)
    (case po_Pair => k_is)
    (case sa_Pair => k_is)
    (case mk_Pair => k_is)
    (case kc_Pair => k_is)
    (case n_Pair_row => k_is)
    (case pg_Plain => k_is)
    (case hd_Plain => k_is)
    (case po_Plain => k_is)
    (case sa_Plain => k_is)
    (case mk_Plain => k_is)
    (case kc_Plain => k_is)
    (case n_Plain_row => k_is)
    (case n_Plain_last_words => k_is)
    (case pg_Thing => k_is)
    (case hd_Thing => k_is)
    (case po_Thing => k_is)
    (case sa_Thing => k_is)
    (case mk_Thing => k_is)
    (case kc_Thing => k_is)
    (case n_Thing_row => k_is)
    (case g_law_alike => k_is)
    (case l_law_alike => k_is)
    (case c_law_alike1 => k_is)
    (case k_law_alike => k_is)
    (case l_Pair_sort_of => k_is)
    (case c_Pair_sort_of1 => k_is)
    (case k_Pair_sort_of => k_is)
    (case i_Pair_sort_of => k_is)
    (case g_is_thing => k_is)
    (case l_is_thing => k_is)
    (case c_is_thing1 => k_is)
    (case k_is_thing => k_is)
    (case l_Pair_waits => k_is)
    (case c_Pair_waits1 => k_is)
    (case k_Pair_waits => k_is)
    (case i_Pair_waits => k_is)
    (case l_Plain_holds => k_is)
    (case c_Plain_holds1 => k_is)
    (case k_Plain_holds => k_is)
    (case i_Plain_holds => k_is)
    (case l_Plain_sort_of => k_is)
    (case c_Plain_sort_of1 => k_is)
    (case k_Plain_sort_of => k_is)
    (case i_Plain_sort_of => k_is)
    (case l_Plain_words => k_is)
    (case c_Plain_words1 => k_is)
    (case k_Plain_words => k_is)
    (case i_Plain_words => k_is)
    (case l_Thing_fields => k_is)
    (case c_Thing_fields1 => k_is)
    (case k_Thing_fields => k_is)
    (case i_Thing_fields => k_is)
    (case l_Thing_holds => k_is)
    (case c_Thing_holds1 => k_is)
    (case k_Thing_holds => k_is)
    (case i_Thing_holds => k_is)
    (case l_Thing_sort_of => k_is)
    (case c_Thing_sort_of1 => k_is)
    (case k_Thing_sort_of => k_is)
    (case i_Thing_sort_of => k_is)
    (case l_Thing_waits => k_is)
    (case c_Thing_waits1 => k_is)
    (case k_Thing_waits => k_is)
    (case i_Thing_waits => k_is)
    (case l_Thing_words => k_is)
    (case c_Thing_words1 => k_is)
    (case k_Thing_words => k_is)
    (case i_Thing_words => k_is)
    (case g_law_right => k_is)
    (case l_law_right => k_is)
    (case c_law_right1 => k_is)
    (case k_law_right => k_is)
    (case g_law_value_by => k_is)
    (case l_law_value_by => k_is)
    (case c_law_value_by1 => k_is)
    (case k_law_value_by => k_is)
    (case l_Thing_init => k_is)
    (case c_Thing_init1 => k_is)
    (case k_Thing_init => k_is)
    (case i_Thing_init => k_is)
    (case g_pair => k_is)
    (case l_pair => k_is)
    (case c_pair1 => k_is)
    (case k_pair => k_is)
    (case l_Plain_init => k_is)
    (case c_Plain_init1 => k_is)
    (case k_Plain_init => k_is)
    (case i_Plain_init => k_is)
    (case g_plain => k_is)
    (case l_plain => k_is)
    (case c_plain1 => k_is)
    (case k_plain => k_is)
    (case g_weak => k_is)
    (case l_weak => k_is)
    (case c_weak1 => k_is)
    (case k_weak => k_is)
    (case l_Plain_with_field => k_is)
    (case c_Plain_with_field1 => k_is)
    (case k_Plain_with_field => k_is)
    (case i_Plain_with_field => k_is)
    (case l_Plain_with_words => k_is)
    (case c_Plain_with_words1 => k_is)
    (case k_Plain_with_words => k_is)
    (case i_Plain_with_words => k_is)
    (case g_law_holds => k_is)
    (case l_law_holds => k_is)
    (case c_law_holds1 => k_is)
    (case k_law_holds => k_is)
    (case g_law => k_is)
    (case l_law => k_is)
    (case c_law1 => k_is)
    (case k_law => k_is)
    (case rd_Thing => k_is)
    (case ga_Thing => k_is)
    (case hn_cls => k_is)
    (case tk_cls => k_is)
    (case cc_Pair => k_is)
    (case mo_Pair => k_is)
    (case cc_Plain => k_is)
    (case mo_Plain => k_is)
    (case cc_Thing => k_is)
    (case mo_Thing => k_is)
    (case ki_Pair_Thing => kit_is)
    (case ki_Plain_Thing => kit_is)
    (case ki_Thing_Thing => kit_is)
    (case kt_Thing_NoneType => kit_is)
    (case kt_Thing_bool => kit_is)
    (case kt_Thing_int => kit_is)
    (case kt_Thing_str => kit_is)
    (case kt_Thing_tuple => kit_is)
    (case kt_Thing_list => kit_is)
    (case kt_Thing_dict => kit_is)
    (case z_abs => k_is)
    (case z_bool => k_is)
    (case z_dict => k_is)
    (case z_int => k_is)
    (case z_isinstance => k_is)
    (case z_len => k_is)
    (case z_list => k_is)
    (case z_range => k_is)
    (case z_str => k_is)
    (case z_tuple => k_is)
#print axioms PySem.Challenge.cw_heapsafe_k10_what_things_hold_holds
