import PyProof.Rows.All
import Wide.All
import OpenK.AllK
import Wide.FinOn
import PyProof.EqAt
import PyProof.EqKinds
import PyProof.TupleCall
import HandS.ForMost
import HandS.ForExc
import HandS.TryMany
import HandS.Wide
import HandS.WideBits
import HandS.IsInst
import HandS.CallSlots
import HandS.ClsMeth
import HandS.SortInts
import HandS.EndBits
import PySem.Challenge.RW_heapsafe_k05_cells
set_option Elab.async false
set_option linter.all false
set_option maxRecDepth 100000
set_option maxHeartbeats 2000000
namespace MP
open PySem L2

/-! ### values, objects, stores -/
inductive D where
  | non | bl (b : Bool) | int (i : Int) | str (x : Str) | tup (xs : List D) | loc (l : Nat)
inductive Cl where
  | Rooms | Thing | Plain | Pair | PlainHeap | Looker | Memory | Marking | Fence | New | Old | Heap | Desk
  deriving DecidableEq
inductive Fl where
  | many | cells | inside | row | last_words | named | made | line | heap | part | to_go | gone | rooms | memory | marking | fence | rows | phase | room
  deriving DecidableEq
def Cl.nm : Cl → Str
  | .Rooms => "Rooms" | .Thing => "Thing" | .Plain => "Plain" | .Pair => "Pair" | .PlainHeap => "PlainHeap" | .Looker => "Looker" | .Memory => "Memory"
  | .Marking => "Marking" | .Fence => "Fence" | .New => "New" | .Old => "Old" | .Heap => "Heap" | .Desk => "Desk"
def Fl.nm : Fl → Str
  | .many => "many" | .cells => "cells" | .inside => "inside" | .row => "row" | .last_words => "last_words" | .named => "named" | .made => "made"
  | .line => "line" | .heap => "heap" | .part => "part" | .to_go => "to_go" | .gone => "gone" | .rooms => "rooms" | .memory => "memory"
  | .marking => "marking" | .fence => "fence" | .rows => "rows" | .phase => "phase" | .room => "room"
/-- an own exception's class -/
inductive Xc where
  | NoDeed | NoLog | NoThing | NoField | NoRoom
  deriving DecidableEq
inductive O where
  | lst (fz : Bool) (xs : List D)
  | dct (fz : Bool) (kvs : List (Key × D))
  | ins (c : Cl) (fs : List (Fl × D))
abbrev Sto := List O
abbrev Rho := List (Option D)
structure Ex where
  c : Xc
  v : Option D
inductive Res (α : Type) where
  | ok (a : α) (S : Sto) | exc (e : Ex) (S : Sto) | stuck
inductive SR where
  | nx (ρ : Rho) (S : Sto) | rt (d : D) (S : Sto) | bk (ρ : Rho) (S : Sto) | ct (ρ : Rho) (S : Sto) | xc (e : Ex) (ρ : Rho) (S : Sto) | stuck
def Res.bind {α β : Type} (r : Res α) (f : α → Sto → Res β) : Res β :=
  match r with
  | .ok a S => f a S
  | .exc e S => .exc e S
  | .stuck => .stuck
@[simp] theorem Res.bind_ok {α β : Type} (a : α) (S : Sto) (f : α → Sto → Res β) : (Res.ok a S).bind f = f a S := rfl
@[simp] theorem Res.bind_exc {α β : Type} (e : Ex) (S : Sto) (f : α → Sto → Res β) : (Res.exc e S).bind f = .exc e S := rfl
@[simp] theorem Res.bind_stuck {α β : Type} (f : α → Sto → Res β) : (Res.stuck : Res α).bind f = .stuck := rfl
abbrev MEx := Rho → Sto → Res D
abbrev MTs := Rho → Sto → Res Bool
abbrev MAr := Rho → Sto → Res (List D)
abbrev MSt := Rho → Sto → SR
abbrev MFn := List D → Sto → Res D
def Res.st {α : Type} (r : Res α) (ρ : Rho) (f : α → Sto → SR) : SR :=
  match r with
  | .ok a S => f a S
  | .exc e S => .xc e ρ S
  | .stuck => .stuck
@[simp] theorem Res.st_ok {α : Type} (a : α) (S : Sto) (ρ : Rho) (f : α → Sto → SR) : (Res.ok a S).st ρ f = f a S := rfl
@[simp] theorem Res.st_exc {α : Type} (e : Ex) (S : Sto) (ρ : Rho) (f : α → Sto → SR) : (Res.exc e S).st ρ f = .xc e ρ S := rfl
@[simp] theorem Res.st_stuck {α : Type} (ρ : Rho) (f : α → Sto → SR) : (Res.stuck : Res α).st ρ f = .stuck := rfl

/-! ### how it lies in the abstract heap -/
/-- where the text's classes lie -/
structure Ga where
  cl : Cl → Addr
  has : Cl → Bool
  xc : Xc → Addr
mutual
inductive RV (K : PySem.W.Frag) (H : Hp) (φ : List Addr) : D → V → Prop
  | non : RV K H φ .non .non
  | bl {b : Bool} : RV K H φ (.bl b) (.bl b)
  | int {i : Int} : RV K H φ (.int i) (.int i)
  | str {x : Str} : RV K H φ (.str x) (.str x)
  | tup {xs : List D} {vs : List V} {a : Addr} : SqT K H a vs → RVs K H φ xs vs → RV K H φ (.tup xs) (.ref a)
  | loc {l : Nat} {a : Addr} : φ[l]? = some a → RV K H φ (.loc l) (.ref a)
inductive RVs (K : PySem.W.Frag) (H : Hp) (φ : List Addr) : List D → List V → Prop
  | nil : RVs K H φ [] []
  | cons {d : D} {v : V} {ds : List D} {vs : List V} : RV K H φ d v → RVs K H φ ds vs → RVs K H φ (d :: ds) (v :: vs)
end
/-- tuples and known things stay -/
structure TK (H H' : Hp) : Prop where
  tup : ∀ a xs, H a = some (.tup xs) → H' a = some (.tup xs)
  frz : ∀ a o u, H a = some (.frz o u) → H' a = some (.frz o u)
theorem TK.refl {H : Hp} : TK H H := ⟨fun _ _ h => h, fun _ _ _ h => h⟩
theorem TK.trans {H H1 H2 : Hp} (a : TK H H1) (b : TK H1 H2) : TK H H2 := ⟨fun c xs h => b.tup c xs (a.tup c xs h), fun c o u h => b.frz c o u (a.frz c o u h)⟩
theorem TK.new {H : Hp} {p : Addr} {o : HO} (h : H p = none) : TK H (upd H p o) :=
  ⟨fun a xs q => by rw [upd_ne (ne_of_none q h)]; exact q, fun a ob u q => by rw [upd_ne (ne_of_none q h)]; exact q⟩
theorem TK.at {H : Hp} {p : Addr} {o u : HO} (h : H p = some u) (h1 : ∀ xs, u ≠ .tup xs) (h2 : ∀ ob w, u ≠ .frz ob w) : TK H (upd H p o) :=
  ⟨fun a xs q => by rw [upd_ne (ne_of q h fun z => h1 _ z.symm)]; exact q, fun a ob w q => by rw [upd_ne (ne_of q h fun z => h2 _ _ z.symm)]; exact q⟩
theorem TK.sqt {K : PySem.W.Frag} {H H' : Hp} {a : Addr} {vs : List V} (t : TK H H') (h : SqT K H a vs) : SqT K H' a vs := by
  rcases h with (h | ⟨o, h⟩) | h
  · exact .inl (.inl (t.tup _ _ h))
  · exact .inl (.inr ⟨o, t.frz _ _ _ h⟩)
  · exact .inr h
theorem pre_get {φ φ' : List Addr} (h : φ <+: φ') {l : Nat} {a : Addr} (e : φ[l]? = some a) : φ'[l]? = some a := by
  obtain ⟨t, rfl⟩ := h
  have hl := (List.getElem?_eq_some_iff.mp e).1
  rw [List.getElem?_append_left hl]
  exact e
section
variable {K : PySem.W.Frag} {H H' : Hp} {φ φ' : List Addr}
mutual
theorem RV.mono {d : D} {v : V} (t : TK H H') (p : φ <+: φ') (h : RV K H φ d v) : RV K H' φ' d v := by
  cases h with
  | non => exact .non
  | bl => exact .bl
  | int => exact .int
  | str => exact .str
  | tup q r => exact .tup (t.sqt q) (RVs.mono t p r)
  | loc e => exact .loc (pre_get p e)
theorem RVs.mono {ds : List D} {vs : List V} (t : TK H H') (p : φ <+: φ') (h : RVs K H φ ds vs) : RVs K H' φ' ds vs := by
  cases h with
  | nil => exact .nil
  | cons a b => exact .cons (RV.mono t p a) (RVs.mono t p b)
end
theorem RVs.length : ∀ {ds : List D} {vs : List V}, RVs K H φ ds vs → ds.length = vs.length
  | _, _, .nil => rfl
  | _, _, .cons _ b => by rw [List.length_cons, List.length_cons, RVs.length b]
theorem RVs.get : ∀ {ds : List D} {vs : List V} {i : Nat} {d : D}, RVs K H φ ds vs → ds[i]? = some d → ∃ v, vs[i]? = some v ∧ RV K H φ d v
  | _, _, _, _, .nil, e => by simp at e
  | _, _, 0, _, .cons a _, e => by simp at e; subst e; exact ⟨_, rfl, a⟩
  | _, _, i + 1, d, .cons _ b, e => by
    obtain ⟨v, h1, h2⟩ := RVs.get (i := i) (d := d) b (by simpa using e)
    exact ⟨v, by simpa using h1, h2⟩
theorem RVs.set {d : D} {v : V} (r : RV K H φ d v) : ∀ {ds : List D} {vs : List V} (i : Nat), RVs K H φ ds vs → RVs K H φ (ds.set i d) (vs.set i v)
  | _, _, _, .nil => .nil
  | _, _, 0, .cons _ b => .cons r b
  | _, _, i + 1, .cons a b => .cons a (RVs.set r i b)
theorem RVs.append : ∀ {ds es : List D} {vs us : List V}, RVs K H φ ds vs → RVs K H φ es us → RVs K H φ (ds ++ es) (vs ++ us)
  | _, _, _, _, .nil, s => s
  | _, _, _, _, .cons a b, s => .cons a (RVs.append b s)
theorem RVs.take : ∀ {ds : List D} {vs : List V} (n : Nat), RVs K H φ ds vs → RVs K H φ (ds.take n) (vs.take n)
  | _, _, 0, _ => .nil
  | _, _, _ + 1, .nil => .nil
  | _, _, n + 1, .cons a b => .cons a (RVs.take n b)
theorem RVs.drop : ∀ {ds : List D} {vs : List V} (n : Nat), RVs K H φ ds vs → RVs K H φ (ds.drop n) (vs.drop n)
  | _, _, 0, r => r
  | _, _, _ + 1, .nil => .nil
  | _, _, n + 1, .cons _ b => RVs.drop n b
theorem RVs.ints : ∀ {ns : List Int}, RVs K H φ (ns.map D.int) (ns.map V.int)
  | [] => .nil
  | _ :: _ => .cons .int RVs.ints
end
/-- pairs of a dict, of an instance -/
inductive RKs (K : PySem.W.Frag) (H : Hp) (φ : List Addr) {κ κ' : Type} (f : κ → κ') : List (κ × D) → List (κ' × V) → Prop
  | nil : RKs K H φ f [] []
  | cons {k : κ} {d : D} {v : V} {ds : List (κ × D)} {vs : List (κ' × V)} : RV K H φ d v → RKs K H φ f ds vs → RKs K H φ f ((k, d) :: ds) ((f k, v) :: vs)
theorem RKs.mono {K : PySem.W.Frag} {H H' : Hp} {φ φ' : List Addr} {κ κ' : Type} {f : κ → κ'} {ds : List (κ × D)} {vs : List (κ' × V)} (t : TK H H') (p : φ <+: φ') (h : RKs K H φ f ds vs) : RKs K H' φ' f ds vs := by
  induction h with
  | nil => exact .nil
  | cons a _ ih => exact .cons (a.mono t p) ih
theorem RKs.length {K : PySem.W.Frag} {H : Hp} {φ : List Addr} {κ κ' : Type} {f : κ → κ'} {ds : List (κ × D)} {vs : List (κ' × V)} (h : RKs K H φ f ds vs) : ds.length = vs.length := by
  induction h with
  | nil => rfl
  | cons _ _ ih => rw [List.length_cons, List.length_cons, ih]
/-- the fields that a class's objects may have -/
def okF : Cl → Fl → Bool
  | .Rooms, .many => true | .Rooms, .cells => true | .Rooms, .inside => true
  | .Thing, .row => true | .Plain, .row => true | .Plain, .last_words => true | .Pair, .row => true
  | .PlainHeap, .named => true | .PlainHeap, .made => true | .PlainHeap, .line => true
  | .Looker, .heap => true | .Looker, .part => true | .Looker, .to_go => true | .Looker, .gone => true
  | .Memory, .rooms => true | .Marking, .memory => true | .Marking, .line => true
  | .Heap, .memory => true | .Heap, .marking => true | .Heap, .fence => true | .Heap, .named => true | .Heap, .line => true | .Heap, .rows => true
  | .Heap, .phase => true | .Heap, .room => true | .Heap, .made => true | .Desk, .heap => true
  | _, _ => false
inductive RO (K : PySem.W.Frag) (G : Ga) (H : Hp) (φ : List Addr) : O → Addr → Prop
  | lst {xs : List D} {vs : List V} {a : Addr} : H a = some (.lst vs) → RVs K H φ xs vs → RO K G H φ (.lst false xs) a
  | lstK {xs : List D} {vs : List V} {a : Addr} : (∃ (o : Obj) (its : Array Value) (n : Nat), K.lookup a = some o ∧ o.cls = .type "list" ∧ o.dict = none ∧ o.data = .seq its n ∧ its.size ≤ sizeLine ∧ Vals vs its.toList) → RVs K H φ xs vs → RO K G H φ (.lst true xs) a
  | lstF {xs : List D} {vs : List V} {a : Addr} {o : Obj} : H a = some (.frz o (.lst vs)) → RVs K H φ xs vs → RO K G H φ (.lst true xs) a
  | dct {kvs : List (Key × D)} {vs : List (Key × V)} {a : Addr} : H a = some (.dK vs) → RKs K H φ id kvs vs → RO K G H φ (.dct false kvs) a
  | dctF {kvs : List (Key × D)} {vs : List (Key × V)} {a : Addr} {o : Obj} : H a = some (.frz o (.dK vs)) → RKs K H φ id kvs vs → RO K G H φ (.dct true kvs) a
  | ins {c : Cl} {fs : List (Fl × D)} {vs : List (Str × V)} {a dx : Addr} : H a = some (.ins (G.cl c) dx vs) → RKs K H φ Fl.nm fs vs → G.has c = true → fs.all (fun f => okF c f.1) = true → RO K G H φ (.ins c fs) a
def fzL : Option O → Bool
  | some (.lst true _) => true
  | _ => false
structure Emb (K : PySem.W.Frag) (G : Ga) (φ : List Addr) (S : Sto) (H : Hp) : Prop where
  len : φ.length = S.length
  nd : ∀ (l l' : Nat) a, φ[l]? = some a → φ[l']? = some a → l = l' ∨ fzL S[l]? = true ∨ fzL S[l']? = true
  ob : ∀ (l : Nat) o a, S[l]? = some o → φ[l]? = some a → RO K G H φ o a
def Ext (φ : List Addr) (H : Hp) (φ' : List Addr) (H' : Hp) : Prop := φ <+: φ' ∧ TK H H'
theorem Ext.refl {φ : List Addr} {H : Hp} : Ext φ H φ H := ⟨List.prefix_rfl, .refl⟩
theorem Ext.trans {φ φ1 φ2 : List Addr} {H H1 H2 : Hp} (a : Ext φ H φ1 H1) (b : Ext φ1 H1 φ2 H2) : Ext φ H φ2 H2 := ⟨a.1.trans b.1, a.2.trans b.2⟩
theorem RV.ext {K : PySem.W.Frag} {φ φ' : List Addr} {H H' : Hp} {d : D} {v : V} (x : Ext φ H φ' H') (h : RV K H φ d v) : RV K H' φ' d v := h.mono x.2 x.1
theorem RVs.ext {K : PySem.W.Frag} {φ φ' : List Addr} {H H' : Hp} {d : List D} {v : List V} (x : Ext φ H φ' H') (h : RVs K H φ d v) : RVs K H' φ' d v := h.mono x.2 x.1
/-- slots -/
structure RS (K : PySem.W.Frag) (φ : List Addr) (ρ : Rho) (σ : St) (H : Hp) : Prop where
  len : ρ.length = σ.length
  at_ : ∀ (i : Nat) d, ρ[i]? = some (some d) → ∃ v, σ[i]? = some (some v) ∧ RV K H φ d v
theorem RS.ext {K : PySem.W.Frag} {φ φ' : List Addr} {ρ : Rho} {σ : St} {H H' : Hp} (x : Ext φ H φ' H') (h : RS K φ ρ σ H) : RS K φ' ρ σ H' :=
  ⟨h.len, fun i d e => let ⟨v, a, b⟩ := h.at_ i d e; ⟨v, a, b.ext x⟩⟩
theorem RS.set {K : PySem.W.Frag} {φ : List Addr} {ρ : Rho} {σ : St} {H : Hp} {d : D} {v : V} (h : RS K φ ρ σ H) (i : Nat) (r : RV K H φ d v) : RS K φ (ρ.set i (some d)) (σ.set i (some v)) H := by
  refine ⟨by simp [h.len], fun j e q => ?_⟩
  by_cases hj : i = j
  · subst hj
    have hl : i < ρ.length := by
      have := (List.getElem?_eq_some_iff.mp q).1
      simpa using this
    rw [List.getElem?_set_self hl] at q
    cases q
    exact ⟨v, List.getElem?_set_self (by rw [← h.len]; exact hl), r⟩
  · rw [List.getElem?_set_ne hj] at q
    rw [List.getElem?_set_ne hj]
    exact h.at_ j e q
/-! ### the wishes -/
def XW (K : PySem.W.Frag) (G : Ga) (W : WX) (e : Ex) (φ : List Addr) (σ : St) (H : Hp) : Prop :=
  match e.v with
  | none => W (.ref (G.xc e.c)) none σ H
  | some x => ∀ d v, H d = some (.xd [(("row" : Str), v)]) → RV K H φ x v → W (.ref (G.xc e.c)) (some d) σ H
def outR {α β : Type} (K : PySem.W.Frag) (G : Ga) (W : WX) (R : Hp → List Addr → α → β → Prop) (r : Res α) (φ : List Addr) (σ : St) (H : Hp) (Q : β → Hp → Prop) : Prop :=
  match r with
  | .ok a S' => ∀ φ' b H', Ext φ H φ' H' → Emb K G φ' S' H' → R H' φ' a b → Q b H'
  | .exc e S' => ∀ φ' H', Ext φ H φ' H' → Emb K G φ' S' H' → XW K G W e φ' σ H'
  | .stuck => False
def outS (K : PySem.W.Frag) (G : Ga) (W : WX) (r : SR) (φ : List Addr) (H : Hp) (D : Ends) : Prop :=
  match r with
  | .nx ρ' S' => ∀ φ' σ' H', Ext φ H φ' H' → Emb K G φ' S' H' → RS K φ' ρ' σ' H' → D.nx σ' H'
  | .rt d S' => ∀ φ' v H', Ext φ H φ' H' → Emb K G φ' S' H' → RV K H' φ' d v → D.rt v H'
  | .bk ρ' S' => ∀ φ' σ' H', Ext φ H φ' H' → Emb K G φ' S' H' → RS K φ' ρ' σ' H' → D.bk σ' H'
  | .ct ρ' S' => ∀ φ' σ' H', Ext φ H φ' H' → Emb K G φ' S' H' → RS K φ' ρ' σ' H' → D.ct σ' H'
  | .xc e ρ' S' => ∀ φ' σ' H', Ext φ H φ' H' → Emb K G φ' S' H' → RS K φ' ρ' σ' H' → XW K G W e φ' σ' H'
  | .stuck => False
def rE (K : PySem.W.Frag) : Hp → List Addr → D → V → Prop := fun H φ d v => RV K H φ d v
def rT : Hp → List Addr → Bool → Bool → Prop := fun _ _ a b => a = b
def rA (K : PySem.W.Frag) : Hp → List Addr → List D → List V → Prop := fun H φ d v => RVs K H φ d v
def wp {α β : Type} (K : PySem.W.Frag) (G : Ga) (W : WX) (R : Hp → List Addr → α → β → Prop) (m : Rho → Sto → Res α) : St → Hp → (β → Hp → Prop) → Prop :=
  fun σ H Q => ∃ φ ρ S, Emb K G φ S H ∧ RS K φ ρ σ H ∧ outR K G W R (m ρ S) φ σ H Q
abbrev wpE (K : PySem.W.Frag) (G : Ga) (W : WX) (m : MEx) : TE := wp K G W (rE K) m
abbrev wpT (K : PySem.W.Frag) (G : Ga) (W : WX) (m : MTs) : TT := wp K G W rT m
abbrev wpA (K : PySem.W.Frag) (G : Ga) (W : WX) (m : MAr) : TA := wp K G W (rA K) m
def wpS (K : PySem.W.Frag) (G : Ga) (W : WX) (m : MSt) : TS := fun D σ H => ∃ φ ρ S, Emb K G φ S H ∧ RS K φ ρ σ H ∧ outS K G W (m ρ S) φ H D
section
variable {K : PySem.W.Frag} {G : Ga} {W : WX} {α β γ δ : Type} {R : Hp → List Addr → α → β → Prop} {R' : Hp → List Addr → γ → δ → Prop}
theorem outR.from {r : Res α} {φ φ1 : List Addr} {σ : St} {H H1 : Hp} {Q : β → Hp → Prop} (x : Ext φ H φ1 H1) (h : outR K G W R r φ σ H Q) : outR K G W R r φ1 σ H1 Q := by
  cases r with
  | ok a S => exact fun φ' b H' x' => h φ' b H' (x.trans x')
  | exc e S => exact fun φ' H' x' => h φ' H' (x.trans x')
  | stuck => exact h
theorem outR.bind {r : Res α} {f : α → Sto → Res γ} {φ : List Addr} {σ : St} {H : Hp} {Q : δ → Hp → Prop} {Q1 : β → Hp → Prop} (h : outR K G W R' (r.bind f) φ σ H Q)
    (k : ∀ a S1 φ1 b H1, Ext φ H φ1 H1 → Emb K G φ1 S1 H1 → R H1 φ1 a b → outR K G W R' (f a S1) φ1 σ H1 Q → Q1 b H1) : outR K G W R r φ σ H Q1 := by
  cases r with
  | ok a S => exact fun φ1 b H1 x em rv => k a S φ1 b H1 x em rv (outR.from x h)
  | exc e S => exact h
  | stuck => exact h
theorem outS.from {r : SR} {φ φ1 : List Addr} {H H1 : Hp} {D : Ends} (x : Ext φ H φ1 H1) (h : outS K G W r φ H D) : outS K G W r φ1 H1 D := by
  cases r with
  | nx ρ S => exact fun φ' b H' x' => h φ' b H' (x.trans x')
  | rt ρ S => exact fun φ' b H' x' => h φ' b H' (x.trans x')
  | bk ρ S => exact fun φ' b H' x' => h φ' b H' (x.trans x')
  | ct ρ S => exact fun φ' b H' x' => h φ' b H' (x.trans x')
  | xc e ρ S => exact fun φ' b H' x' => h φ' b H' (x.trans x')
  | stuck => exact h
theorem outR.st {r : Res α} {f : α → Sto → SR} {φ : List Addr} {ρ : Rho} {σ : St} {H : Hp} {D : Ends} {Q1 : β → Hp → Prop} (rs : RS K φ ρ σ H) (h : outS K G W (r.st ρ f) φ H D)
    (k : ∀ a S1 φ1 b H1, Ext φ H φ1 H1 → Emb K G φ1 S1 H1 → R H1 φ1 a b → outS K G W (f a S1) φ1 H1 D → Q1 b H1) : outR K G W R r φ σ H Q1 := by
  cases r with
  | ok a S => exact fun φ1 b H1 x em rv => k a S φ1 b H1 x em rv (outS.from x h)
  | exc e S => exact fun φ' H' x em => h φ' σ H' x em (rs.ext x)
  | stuck => exact h
theorem outR.ok {a : α} {S : Sto} {φ : List Addr} {σ : St} {H : Hp} {Q : β → Hp → Prop} {b : β} (h : outR K G W R (.ok a S) φ σ H Q) (em : Emb K G φ S H) (r : R H φ a b) : Q b H := h φ b H .refl em r
end

/-! ### the store's turns -/
theorem RO.keep {K : PySem.W.Frag} {G : Ga} {H H' : Hp} {φ φ' : List Addr} {o : O} {a : Addr} (t : TK H H') (p : φ <+: φ') (k : ∀ u, H a = some u → H' a = some u) (h : RO K G H φ o a) : RO K G H' φ' o a := by
  cases h with
  | lst e r => exact .lst (k _ e) (r.mono t p)
  | lstK e r => exact .lstK e (r.mono t p)
  | lstF e r => exact .lstF (k _ e) (r.mono t p)
  | dct e r => exact .dct (k _ e) (r.mono t p)
  | dctF e r => exact .dctF (k _ e) (r.mono t p)
  | ins e r h1 h2 => exact .ins (k _ e) (r.mono t p) h1 h2
theorem RO.there {K : PySem.W.Frag} {G : Ga} {H : Hp} {φ : List Addr} {o : O} {a : Addr} (h : RO K G H φ o a) : (∃ u, H a = some u) ∨ fzL (some o) = true := by
  cases h with
  | lst e r => exact .inl ⟨_, e⟩
  | lstK e r => exact .inr rfl
  | lstF e r => exact .inr rfl
  | dct e r => exact .inl ⟨_, e⟩
  | dctF e r => exact .inl ⟨_, e⟩
  | ins e r h1 h2 => exact .inl ⟨_, e⟩
theorem Emb.addr {K : PySem.W.Frag} {G : Ga} {φ : List Addr} {S : Sto} {H : Hp} (em : Emb K G φ S H) {l : Nat} {o : O} (h : S[l]? = some o) : ∃ a, φ[l]? = some a ∧ RO K G H φ o a := by
  have hl : l < φ.length := by rw [em.len]; exact (List.getElem?_eq_some_iff.mp h).1
  exact ⟨φ[l], List.getElem?_eq_getElem hl, em.ob l o _ h (List.getElem?_eq_getElem hl)⟩
theorem Emb.at_loc {K : PySem.W.Frag} {G : Ga} {φ : List Addr} {S : Sto} {H : Hp} (em : Emb K G φ S H) {l : Nat} {o : O} {v : V} (h : S[l]? = some o) (r : RV K H φ (.loc l) v) : ∃ a, v = .ref a ∧ φ[l]? = some a ∧ RO K G H φ o a := by
  cases r with
  | loc e => exact ⟨_, rfl, e, em.ob l o _ h e⟩
/-- the heap changes elsewhere -/
theorem Emb.keep {K : PySem.W.Frag} {G : Ga} {φ : List Addr} {S : Sto} {H H' : Hp} (em : Emb K G φ S H) (t : TK H H') (k : ∀ a u, H a = some u → H' a = some u) : Emb K G φ S H' :=
  ⟨em.len, em.nd, fun l o a h e => (em.ob l o a h e).keep t List.prefix_rfl (k a)⟩
/-- a tuple is laid -/
theorem Emb.other {K : PySem.W.Frag} {G : Ga} {φ : List Addr} {S : Sto} {H : Hp} {p : Addr} {ho : HO} (em : Emb K G φ S H) (hp : H p = none) : Emb K G φ S (upd H p ho) :=
  em.keep (.new hp) fun a u e => by rw [upd_ne (ne_of_none e hp)]; exact e
/-- an object is laid -/
theorem Emb.new {K : PySem.W.Frag} {G : Ga} {φ : List Addr} {S : Sto} {H : Hp} {p : Addr} {o : O} {ho : HO} (em : Emb K G φ S H) (hp : H p = none) (r : RO K G (upd H p ho) (φ ++ [p]) o p) : Emb K G (φ ++ [p]) (S ++ [o]) (upd H p ho) := by
  have hlen := em.len
  have old : ∀ {l a}, (φ ++ [p])[l]? = some a → l < φ.length → φ[l]? = some a := fun {l a} e h => by rw [List.getElem?_append_left h] at e; exact e
  have last : ∀ {l a}, (φ ++ [p])[l]? = some a → ¬ l < φ.length → l = φ.length ∧ a = p := fun {l a} e h => by
    have h1 : l < (φ ++ [p]).length := (List.getElem?_eq_some_iff.mp e).1
    simp at h1
    have h2 : l = φ.length := by omega
    subst h2
    simp at e
    exact ⟨rfl, e.symm⟩
  have sold : ∀ {l}, l < φ.length → (S ++ [o])[l]? = S[l]? := fun {l} h => by rw [List.getElem?_append_left (by omega)]
  have clash : ∀ {l}, φ[l]? = some p → fzL S[l]? = true := fun {l} e => by
    have hl : l < φ.length := (List.getElem?_eq_some_iff.mp e).1
    have hl2 : l < S.length := by omega
    have q := em.ob l S[l] p (List.getElem?_eq_getElem hl2) e
    rw [List.getElem?_eq_getElem hl2]
    rcases q.there with ⟨u, z⟩ | z
    · rw [hp] at z; cases z
    · exact z
  refine ⟨by simp [hlen], fun l l' a e e' => ?_, fun l o' a h e => ?_⟩
  · by_cases h1 : l < φ.length
    · by_cases h2 : l' < φ.length
      · rw [sold h1, sold h2]
        exact em.nd l l' a (old e h1) (old e' h2)
      · obtain ⟨_, rfl⟩ := last e' h2
        rw [sold h1]
        exact .inr (.inl (clash (old e h1)))
    · obtain ⟨h3, rfl⟩ := last e h1
      by_cases h2 : l' < φ.length
      · rw [sold h2]
        exact .inr (.inr (clash (old e' h2)))
      · exact .inl (h3.trans (last e' h2).1.symm)
  · by_cases h1 : l < φ.length
    · rw [sold h1] at h
      exact (em.ob l o' a h (old e h1)).keep (.new hp) (List.prefix_append _ _) fun u z => by rw [upd_ne (ne_of_none z hp)]; exact z
    · obtain ⟨h3, rfl⟩ := last e h1
      subst h3
      rw [hlen] at h
      simp at h
      subst h
      exact r
theorem Ext.new {φ : List Addr} {H : Hp} {p : Addr} {ho : HO} (hp : H p = none) : Ext φ H (φ ++ [p]) (upd H p ho) := ⟨List.prefix_append _ _, .new hp⟩
theorem Ext.other {φ : List Addr} {H : Hp} {p : Addr} {ho : HO} (hp : H p = none) : Ext φ H φ (upd H p ho) := ⟨List.prefix_rfl, .new hp⟩
/-- an object is written -/
theorem Emb.set {K : PySem.W.Frag} {G : Ga} {φ : List Addr} {S : Sto} {H : Hp} {l : Nat} {a : Addr} {o0 o : O} {u ho : HO} (em : Emb K G φ S H) (h0 : S[l]? = some o0) (ha : φ[l]? = some a) (hu : H a = some u) (h1 : ∀ xs, u ≠ .tup xs) (h2 : ∀ ob w, u ≠ .frz ob w)
    (hf : fzL (some o0) = false) (r : RO K G (upd H a ho) φ o a) : Emb K G φ (S.set l o) (upd H a ho) := by
  have hl : l < S.length := (List.getElem?_eq_some_iff.mp h0).1
  have tk : TK H (upd H a ho) := TK.at hu h1 h2
  refine ⟨by simp [em.len], fun i j b e e' => ?_, fun i o' b h e => ?_⟩
  · have z := em.nd i j b e e'
    rcases z with z | z | z
    · exact .inl z
    · refine .inr (.inl ?_)
      by_cases hi : l = i
      · subst hi; rw [h0, hf] at z; cases z
      · rw [List.getElem?_set_ne hi]; exact z
    · refine .inr (.inr ?_)
      by_cases hi : l = j
      · subst hi; rw [h0, hf] at z; cases z
      · rw [List.getElem?_set_ne hi]; exact z
  · by_cases hi : l = i
    · subst hi
      rw [List.getElem?_set_self hl] at h
      cases h
      rw [ha] at e
      cases e
      exact r
    · rw [List.getElem?_set_ne hi] at h
      have q := em.ob i o' b h e
      by_cases hb : b = a
      · subst hb
        rcases em.nd l i b ha e with z | z | z
        · exact absurd z hi
        · rw [h0, hf] at z; cases z
        · rw [h] at z
          cases q with
          | lst e1 r1 => cases z
          | lstK e1 r1 => exact .lstK e1 (r1.mono tk List.prefix_rfl)
          | lstF e1 r1 => rw [hu] at e1; exact absurd (Option.some.inj e1) (h2 _ _)
          | dct e1 r1 => cases z
          | dctF e1 r1 => cases z
          | ins e1 r1 _ _ => cases z
      · exact q.keep tk List.prefix_rfl fun w z => by rw [upd_ne hb]; exact z
theorem Ext.at {φ : List Addr} {H : Hp} {a : Addr} {u ho : HO} (hu : H a = some u) (h1 : ∀ xs, u ≠ .tup xs) (h2 : ∀ ob w, u ≠ .frz ob w) : Ext φ H φ (upd H a ho) := ⟨List.prefix_rfl, TK.at hu h1 h2⟩
/-- a list as it may be read -/
theorem RO.sql {K : PySem.W.Frag} {G : Ga} {H : Hp} {φ : List Addr} {fz : Bool} {xs : List D} {a : Addr} (h : RO K G H φ (.lst fz xs) a) : ∃ vs, SqL K H a vs ∧ RVs K H φ xs vs := by
  cases h with
  | lst e r => exact ⟨_, .inl (.inl e), r⟩
  | lstK e r => exact ⟨_, .inr e, r⟩
  | lstF e r => exact ⟨_, .inl (.inr ⟨_, e⟩), r⟩
theorem RO.lstM {K : PySem.W.Frag} {G : Ga} {H : Hp} {φ : List Addr} {xs : List D} {a : Addr} (h : RO K G H φ (O.lst false xs) a) : ∃ vs, H a = some (HO.lst vs) ∧ RVs K H φ xs vs := by
  cases h with
  | lst e r => exact ⟨_, e, r⟩
end MP

set_option Elab.async false
set_option linter.all false
set_option maxRecDepth 100000
set_option maxHeartbeats 2000000
namespace MP
open PySem L2
/-- a body's context -/
structure DX (X : Cx) (G : Ga) (W : WX) (k : Nat) : Prop where
  calm : X.calm = true
  tk : Takes X W
  pn : PassesOwn (model X.prog X.w) X.A X.env X.xe
  hr : Room k X.A
  nd : X.N.Nodup
/-- the classes -/
structure Gok (K : PySem.W.Frag) (G : Ga) : Prop where
  cls : ∀ c, G.has c = true → Cls K (G.cl c)
  noat : ∀ c f, G.has c = true → okF c f = true → NoAttr K (G.cl c) f.nm
section
variable {X : Cx} {G : Ga} {W : WX} {k : Nat}
theorem pe_conv {e : Expr} {t t' : TE} (h : PE X e t) (hh : ∀ σ H Q, t' σ H Q → t σ H Q) : PE X e t' := ⟨fun pins s σ H Q I ht => h.run pins s σ H Q I (hh _ _ _ ht)⟩
theorem pt_conv {e : Expr} {t t' : TT} (h : PT X e t) (hh : ∀ σ H Q, t' σ H Q → t σ H Q) : PT X e t' := ⟨fun pins s σ H Q I ht => h.run pins s σ H Q I (hh _ _ _ ht)⟩
theorem pw_conv {e : Expr} {t t' : TT} (h : PW X e t) (hh : ∀ σ H Q, t' σ H Q → t σ H Q) : PW X e t' := ⟨fun wh pins s σ H Q I ht => h.run wh pins s σ H Q I (hh _ _ _ ht)⟩
theorem pa_conv {e : List Expr} {t t' : TA} (h : PA X e t) (hh : ∀ σ H Q, t' σ H Q → t σ H Q) : PA X e t' := ⟨fun pos pins s σ H Q I ht => h.run pos pins s σ H Q I (hh _ _ _ ht)⟩
theorem ps_conv {e : Stmt} {t t' : TS} (h : PS X e t) (hh : ∀ D σ H, t' D σ H → t D σ H) : PS X e t' := ⟨fun pins s σ H D I ht => h.run pins s σ H D I (hh _ _ _ ht)⟩
theorem pss_conv {e : List Stmt} {t t' : TS} (h : PSs X e t) (hh : ∀ D σ H, t' D σ H → t D σ H) : PSs X e t' := ⟨fun pins s σ H D I ht => h.run pins s σ H D I (hh _ _ _ ht)⟩
theorem pg_conv {e : Expr} {t t' : TG} (h : PG X e t) (hh : ∀ v σ H Q, t' v σ H Q → t v σ H Q) : PG X e t' := ⟨fun pins s σ H v u Q I r ht => h.run pins s σ H v u Q I r (hh _ _ _ _ ht)⟩
theorem pi_conv {tg e : Expr} {t t' : TI} (h : PI X tg e t) (hh : ∀ σ H Q, t' σ H Q → t σ H Q) : PI X tg e t' := ⟨fun pins s σ H Q I ht => h.run pins s σ H Q I (hh _ _ _ ht)⟩
theorem pe_or2 {e : Expr} {t t' : TE} (h : PE X e t) (h' : PE X e t') : PE X e (fun σ H Q => t σ H Q ∨ t' σ H Q) := ⟨fun pins s σ H Q I ht => ht.elim (h.run pins s σ H Q I) (h'.run pins s σ H Q I)⟩
theorem ps_or2 {e : Stmt} {t t' : TS} (h : PS X e t) (h' : PS X e t') : PS X e (fun D σ H => t D σ H ∨ t' D σ H) := ⟨fun pins s σ H Q I ht => ht.elim (h.run pins s σ H Q I) (h'.run pins s σ H Q I)⟩
theorem pi_or2 {tg e : Expr} {t t' : TI} (h : PI X tg e t) (h' : PI X tg e t') : PI X tg e (fun σ H Q => t σ H Q ∨ t' σ H Q) := ⟨fun pins s σ H Q I ht => ht.elim (h.run pins s σ H Q I) (h'.run pins s σ H Q I)⟩
theorem pg_or2 {e : Expr} {t t' : TG} (h : PG X e t) (h' : PG X e t') : PG X e (fun v σ H Q => t v σ H Q ∨ t' v σ H Q) := ⟨fun pins s σ H v u Q I r ht => ht.elim (h.run pins s σ H v u Q I r) (h'.run pins s σ H v u Q I r)⟩

/-! ### two ways: the first that is not stuck -/
def mAlt (a b : MEx) : MEx := fun ρ S => match a ρ S with
  | .stuck => b ρ S
  | r => r
theorem d_alt {e : Expr} {a b : MEx} (ha : PE X e (wpE X.K G W a)) (hb : PE X e (wpE X.K G W b)) : PE X e (wpE X.K G W (mAlt a b)) := by
  refine pe_conv (pe_or2 ha hb) ?_
  rintro σ H Q ⟨φ, ρ, S, em, rs, h⟩
  unfold mAlt at h
  cases q : a ρ S with
  | ok d S' => rw [q] at h; exact .inl ⟨φ, ρ, S, em, rs, by rw [q]; exact h⟩
  | exc d S' => rw [q] at h; exact .inl ⟨φ, ρ, S, em, rs, by rw [q]; exact h⟩
  | stuck => rw [q] at h; exact .inr ⟨φ, ρ, S, em, rs, h⟩
def sAlt (a b : MSt) : MSt := fun ρ S => match a ρ S with
  | .stuck => b ρ S
  | r => r
theorem s_alt {e : Stmt} {a b : MSt} (ha : PS X e (wpS X.K G W a)) (hb : PS X e (wpS X.K G W b)) : PS X e (wpS X.K G W (sAlt a b)) := by
  refine ps_conv (ps_or2 ha hb) ?_
  rintro D σ H ⟨φ, ρ, S, em, rs, h⟩
  by_cases q : a ρ S = .stuck
  · have : sAlt a b ρ S = b ρ S := by unfold sAlt; rw [q]
    rw [this] at h
    exact .inr ⟨φ, ρ, S, em, rs, h⟩
  · have : sAlt a b ρ S = a ρ S := by unfold sAlt; cases z : a ρ S <;> first | rfl | exact absurd z q
    rw [this] at h
    exact .inl ⟨φ, ρ, S, em, rs, h⟩

/-! ### names and constants -/
def mVar (i : Nat) : MEx := fun ρ S => match ρ[i]? with
  | some (some d) => .ok d S
  | _ => .stuck
theorem d_var (i : Nat) {x : Str} {pos : Pos} (hN : X.N[i]? = some x := by rfl) (hv : Vis X.env.scope x := by first | exact Or.inl rfl | exact Or.inr (Or.inl rfl) | exact Or.inr (Or.inr rfl)) (hd : (x == ("__debug__" : Str)) = false := by decide)
    (hcd : (x == ("__classdict__" : Str)) = false := by decide) : PE X (.Name x pos) (wpE X.K G W (mVar i)) := by
  refine pe_conv (pe_var hN hv hd hcd) ?_
  rintro σ H Q ⟨φ, ρ, S, em, rs, h⟩
  unfold mVar at h
  split at h
  · rename_i d e
    obtain ⟨v, e1, r⟩ := rs.at_ i d e
    exact ⟨v, e1, outR.ok h em r⟩
  · exact h.elim
def mC (d : D) : MEx := fun _ S => .ok d S
theorem d_const {e : Expr} {v : V} {d : D} (h : PE X e (tC v)) (r : ∀ H φ, RV X.K H φ d v) : PE X e (wpE X.K G W (mC d)) := by
  refine pe_conv h ?_
  rintro σ H Q ⟨φ, ρ, S, em, rs, h⟩
  exact outR.ok (R := rE X.K) h em (r H φ)
theorem d_int {i : Int} {j : Nat} {pos : Pos} : PE X (.Constant (.int i) j pos) (wpE X.K G W (mC (.int i))) := d_const pe_int fun _ _ => .int
theorem d_bl {b : Bool} {j : Nat} {pos : Pos} : PE X (.Constant (.bool b) j pos) (wpE X.K G W (mC (.bl b))) := d_const pe_bl fun _ _ => .bl
theorem d_non {j : Nat} {pos : Pos} : PE X (.Constant .none j pos) (wpE X.K G W (mC .non)) := d_const pe_non fun _ _ => .non
theorem d_str {x : Str} {j : Nat} {pos : Pos} : PE X (.Constant (.str x) j pos) (wpE X.K G W (mC (.str x))) := d_const pe_str fun _ _ => .str
/-- a constant of the module -/
structure GlC (K : PySem.W.Frag) (mg : Str → Option Value) (x : Str) (d : D) : Prop where
  ex : ∃ u v, mg x = some u ∧ RelV v u ∧ ∀ H φ, RV K H φ d v
theorem d_glob {x : Str} {d : D} {pos : Pos} (g : GlC X.K X.mg x d) (hg : Gl X x := by rfl) (hd : (x == ("__debug__" : Str)) = false := by decide) : PE X (.Name x pos) (wpE X.K G W (mC d)) := by
  obtain ⟨u, v, hm, r, q⟩ := g.ex
  exact d_const (pe_glob hg hm r hd) q

/-! ### operators -/
def mOp2 (f : D → D → Sto → Res D) (a b : MEx) : MEx := fun ρ S => (a ρ S).bind fun x S1 => (b ρ S1).bind fun y S2 => f x y S2
def OpS (K : PySem.W.Frag) (G : Ga) (W : WX) (f : D → D → Sto → Res D) (r : R2) : Prop :=
  ∀ φ S σ H d1 d2 v1 v2 Q, Emb K G φ S H → RV K H φ d1 v1 → RV K H φ d2 v2 → outR K G W (rE K) (f d1 d2 S) φ σ H Q → r v1 v2 H Q
theorem op2 {K : PySem.W.Frag} {f : D → D → Sto → Res D} {r : R2} {a b : MEx} (hs : OpS K G W f r) (σ : St) (H : Hp) (Q : VK) (h : wpE K G W (mOp2 f a b) σ H Q) : tOp r (wpE K G W a) (wpE K G W b) σ H Q := by
  obtain ⟨φ, ρ, S, em, rs, h⟩ := h
  refine ⟨φ, ρ, S, em, rs, h.bind fun d1 S1 φ1 v1 H1 x1 em1 rv1 h1 => ?_⟩
  refine ⟨φ1, ρ, S1, em1, rs.ext x1, h1.bind fun d2 S2 φ2 v2 H2 x2 em2 rv2 h2 => ?_⟩
  exact hs φ2 S2 σ H2 d1 d2 v1 v2 Q em2 (RV.ext x2 rv1) rv2 h2
section
variable {a b : Expr} {ma mb : MEx} {pos : Pos} {f : D → D → Sto → Res D} {r : R2}
theorem d_bin {op : Operator} (ho : OpR X (binaryOp op) r) (hs : OpS X.K G W f r) (ha : PE X a (wpE X.K G W ma)) (hb : PE X b (wpE X.K G W mb)) : PE X (.BinOp a op b pos) (wpE X.K G W (mOp2 f ma mb)) :=
  pe_conv (pe_op ho ha hb) (op2 hs)
theorem d_cmp {op : CmpOp} (ho : OpR X (compareOp op) r) (hs : OpS X.K G W f r) (ha : PE X a (wpE X.K G W ma)) (hb : PE X b (wpE X.K G W mb)) (hm : behindInMarks op b = false) : PE X (.Compare a [op] [b] pos) (wpE X.K G W (mOp2 f ma mb)) :=
  pe_conv (pe_cmpR ho ha hb hm) (op2 hs)
end
/-- a value that is a truth -/
def asB (d : D) (S : Sto) : Res Bool := match d with
  | .bl b => .ok b S
  | _ => .stuck
def mTest (m : MEx) : MTs := fun ρ S => (m ρ S).bind asB
theorem test {K : PySem.W.Frag} {m : MEx} {t : TE} (hh : ∀ σ H Q, wpE K G W m σ H Q → t σ H Q) (σ : St) (H : Hp) (Q : Bool → Hp → Prop) (h : wpT K G W (mTest m) σ H Q) : t σ H fun x H' => ∃ c, x = .bl c ∧ Q c H' := by
  obtain ⟨φ, ρ, S, em, rs, h⟩ := h
  refine hh _ _ _ ⟨φ, ρ, S, em, rs, h.bind fun d S1 φ1 v H1 x em1 rv h1 => ?_⟩
  cases rv with
  | @bl b => exact ⟨b, rfl, outR.ok (R := rT) h1 em1 rfl⟩
  | _ => exact h1.elim
section
variable {a b : Expr} {ma mb : MEx} {pos : Pos} {f : D → D → Sto → Res D} {r : R2}
theorem t_cmp {op : CmpOp} (ho : OpR X (compareOp op) r) (hs : OpS X.K G W f r) (ha : PE X a (wpE X.K G W ma)) (hb : PE X b (wpE X.K G W mb)) (hm : behindInMarks op b = false) : PT X (.Compare a [op] [b] pos) (wpT X.K G W (mTest (mOp2 f ma mb))) :=
  pt_conv (pt_cmpR ho ha hb hm) (test (op2 hs))
theorem t_val {e : Expr} {m : MEx} (h : PE X e (wpE X.K G W m)) (he : ∀ whole, isTrue e X.env whole = (do let v ← whole; standAt e.pos; holding [v] (truthy v)) := by intro _; rfl) : PT X e (wpT X.K G W (mTest m)) :=
  pt_conv (pt_val h he) (test fun _ _ _ z => z)
end
def tAnd' (a b : MTs) : MTs := fun ρ S => (a ρ S).bind fun c S1 => if c = true then b ρ S1 else .ok false S1
def tOr' (a b : MTs) : MTs := fun ρ S => (a ρ S).bind fun c S1 => if c = true then .ok true S1 else b ρ S1
def tNot' (a : MTs) : MTs := fun ρ S => (a ρ S).bind fun c S1 => .ok (!c) S1
section
variable {a b : Expr} {rest : List Expr} {ma mb : MTs} {pos : Pos}
theorem t_and1 (ha : PT X a (wpT X.K G W ma)) : PW X (.BoolOp .And [a] pos) (wpT X.K G W ma) := pw_and1 ha
theorem t_or1 (ha : PT X a (wpT X.K G W ma)) : PW X (.BoolOp .Or [a] pos) (wpT X.K G W ma) := pw_or1 ha
theorem t_and (ha : PT X a (wpT X.K G W ma)) (hb : PW X (.BoolOp .And (b :: rest) pos) (wpT X.K G W mb)) : PW X (.BoolOp .And (a :: b :: rest) pos) (wpT X.K G W (tAnd' ma mb)) := by
  refine pw_conv (pw_and ha hb) ?_
  rintro σ H Q ⟨φ, ρ, S, em, rs, h⟩
  refine ⟨φ, ρ, S, em, rs, h.bind fun c S1 φ1 c' H1 x em1 rv h1 => ?_⟩
  cases (show c = c' from rv)
  cases c with
  | true => rw [if_pos rfl] at h1 ⊢; exact ⟨φ1, ρ, S1, em1, rs.ext x, h1⟩
  | false => rw [if_neg Bool.false_ne_true] at h1 ⊢; exact outR.ok (R := rT) h1 em1 rfl
theorem t_or (ha : PT X a (wpT X.K G W ma)) (hb : PW X (.BoolOp .Or (b :: rest) pos) (wpT X.K G W mb)) : PW X (.BoolOp .Or (a :: b :: rest) pos) (wpT X.K G W (tOr' ma mb)) := by
  refine pw_conv (pw_or ha hb) ?_
  rintro σ H Q ⟨φ, ρ, S, em, rs, h⟩
  refine ⟨φ, ρ, S, em, rs, h.bind fun c S1 φ1 c' H1 x em1 rv h1 => ?_⟩
  cases (show c = c' from rv)
  cases c with
  | true => rw [if_pos rfl] at h1 ⊢; exact outR.ok (R := rT) h1 em1 rfl
  | false => rw [if_neg Bool.false_ne_true] at h1 ⊢; exact ⟨φ1, ρ, S1, em1, rs.ext x, h1⟩
theorem t_not (ha : PT X a (wpT X.K G W ma)) : PT X (.UnaryOp .Not a pos) (wpT X.K G W (tNot' ma)) := by
  refine pt_conv (pt_not ha) ?_
  rintro σ H Q ⟨φ, ρ, S, em, rs, h⟩
  refine ⟨φ, ρ, S, em, rs, h.bind fun c S1 φ1 c' H1 x em1 rv h1 => ?_⟩
  cases (show c = c' from rv)
  exact outR.ok (R := rT) h1 em1 rfl
end
/-- and, or, not as values (truths all but the last) -/
def mAnd (a b : MEx) : MEx := fun ρ S => (a ρ S).bind fun d S1 => match d with
  | .bl true => b ρ S1
  | .bl false => .ok (.bl false) S1
  | _ => .stuck
def mOr (a b : MEx) : MEx := fun ρ S => (a ρ S).bind fun d S1 => match d with
  | .bl true => .ok (.bl true) S1
  | .bl false => b ρ S1
  | _ => .stuck
def mNot (a : MEx) : MEx := fun ρ S => (a ρ S).bind fun d S1 => match d with
  | .bl b => .ok (.bl (!b)) S1
  | _ => .stuck
def mIfE (c : MTs) (a b : MEx) : MEx := fun ρ S => (c ρ S).bind fun t S1 => if t = true then a ρ S1 else b ρ S1
section
variable {a b c : Expr} {rest : List Expr} {ma mb : MEx} {mc : MTs} {pos : Pos}
theorem d_one {op : BoolOp} (h : PE X a (wpE X.K G W ma)) : PE X (.BoolOp op [a] pos) (wpE X.K G W ma) := pe_one h
theorem d_and (ha : PE X a (wpE X.K G W ma)) (hb : PE X (.BoolOp .And (b :: rest) pos) (wpE X.K G W mb)) : PE X (.BoolOp .And (a :: b :: rest) pos) (wpE X.K G W (mAnd ma mb)) := by
  refine pe_conv (pe_and ha hb) ?_
  rintro σ H Q ⟨φ, ρ, S, em, rs, h⟩
  refine ⟨φ, ρ, S, em, rs, h.bind fun d S1 φ1 v H1 x em1 rv h1 => ?_⟩
  cases rv with
  | @bl t =>
    refine ⟨t, rfl, ?_⟩
    cases t with
    | true => exact ⟨φ1, ρ, S1, em1, rs.ext x, h1⟩
    | false => exact outR.ok (R := rE X.K) h1 em1 .bl
  | _ => exact h1.elim
theorem d_or (ha : PE X a (wpE X.K G W ma)) (hb : PE X (.BoolOp .Or (b :: rest) pos) (wpE X.K G W mb)) : PE X (.BoolOp .Or (a :: b :: rest) pos) (wpE X.K G W (mOr ma mb)) := by
  refine pe_conv (pe_or ha hb) ?_
  rintro σ H Q ⟨φ, ρ, S, em, rs, h⟩
  refine ⟨φ, ρ, S, em, rs, h.bind fun d S1 φ1 v H1 x em1 rv h1 => ?_⟩
  cases rv with
  | @bl t =>
    refine ⟨t, rfl, ?_⟩
    cases t with
    | true => exact outR.ok (R := rE X.K) h1 em1 .bl
    | false => exact ⟨φ1, ρ, S1, em1, rs.ext x, h1⟩
  | _ => exact h1.elim
theorem d_not (ha : PE X a (wpE X.K G W ma)) : PE X (.UnaryOp .Not a pos) (wpE X.K G W (mNot ma)) := by
  refine pe_conv (pe_not ha) ?_
  rintro σ H Q ⟨φ, ρ, S, em, rs, h⟩
  refine ⟨φ, ρ, S, em, rs, h.bind fun d S1 φ1 v H1 x em1 rv h1 => ?_⟩
  cases rv with
  | @bl t => exact ⟨t, rfl, outR.ok (R := rE X.K) h1 em1 .bl⟩
  | _ => exact h1.elim
theorem d_ife (hc : PT X c (wpT X.K G W mc)) (ha : PE X a (wpE X.K G W ma)) (hb : PE X b (wpE X.K G W mb)) : PE X (.IfExp c a b pos) (wpE X.K G W (mIfE mc ma mb)) := by
  refine pe_conv (pe_ifExp hc ha hb) ?_
  rintro σ H Q ⟨φ, ρ, S, em, rs, h⟩
  refine ⟨φ, ρ, S, em, rs, h.bind fun t S1 φ1 t' H1 x em1 rv h1 => ?_⟩
  cases (show t = t' from rv)
  cases t with
  | true => exact ⟨φ1, ρ, S1, em1, rs.ext x, h1⟩
  | false => exact ⟨φ1, ρ, S1, em1, rs.ext x, h1⟩
end
/-! ### arguments, displays -/
def aNil : MAr := fun _ S => .ok [] S
def aCons (a : MEx) (r : MAr) : MAr := fun ρ S => (a ρ S).bind fun d S1 => (r ρ S1).bind fun ds S2 => .ok (d :: ds) S2
section
variable {e : Expr} {es : List Expr} {m : MEx} {ms : MAr} {pos : Pos}
theorem a_nil : PA X [] (wpA X.K G W aNil) := by
  refine pa_conv pa_nil ?_
  rintro σ H Q ⟨φ, ρ, S, em, rs, h⟩
  exact outR.ok (R := rA X.K) h em .nil
theorem a_cons (ha : PE X e (wpE X.K G W m)) (hr : PA X es (wpA X.K G W ms)) (hs : starEach (e :: es) X.env = (false, eval e X.env) :: starEach es X.env := by rfl) : PA X (e :: es) (wpA X.K G W (aCons m ms)) := by
  refine pa_conv (pa_cons ha hr hs) ?_
  rintro σ H Q ⟨φ, ρ, S, em, rs, h⟩
  refine ⟨φ, ρ, S, em, rs, h.bind fun d S1 φ1 v H1 x em1 rv h1 => ?_⟩
  refine ⟨φ1, ρ, S1, em1, rs.ext x, h1.bind fun ds S2 φ2 vs H2 x2 em2 rvs h2 => ?_⟩
  exact outR.ok (R := rA X.K) h2 em2 (.cons (RV.ext x2 rv) rvs)
def tupD (ds : List D) (S : Sto) : Res D := if ds.length ≤ sizeLine then .ok (.tup ds) S else .stuck
def mTup (ms : MAr) : MEx := fun ρ S => (ms ρ S).bind tupD
theorem d_tup {j : Nat} (h : PA X es (wpA X.K G W ms)) : PE X (.Tuple es j pos) (wpE X.K G W (mTup ms)) := by
  refine pe_conv (pe_tup h) ?_
  rintro σ H Q ⟨φ, ρ, S, em, rs, h⟩
  refine ⟨φ, ρ, S, em, rs, h.bind fun ds S1 φ1 vs H1 x em1 rv h1 => ?_⟩
  unfold tupD at h1
  split at h1
  · rename_i hl
    refine ⟨by rw [← RVs.length rv]; exact hl, fun p hp => ?_⟩
    exact h1 φ1 _ _ (.other hp) (em1.other hp) (.tup (.of upd_same) (RVs.ext (.other hp) rv))
  · exact h1.elim
/-- a new object -/
def newO (o : O) (S : Sto) : Res D := .ok (.loc S.length) (S ++ [o])
def lstD (ds : List D) (S : Sto) : Res D := if ds.length ≤ sizeLine then newO (.lst false ds) S else .stuck
def mLst (ms : MAr) : MEx := fun ρ S => (ms ρ S).bind lstD
theorem outR.newL {K : PySem.W.Frag} {ds : List D} {S : Sto} {φ : List Addr} {σ : St} {H : Hp} {Q : VK} {vs : List V} {p : Addr} (h : outR K G W (rE K) (newO (.lst false ds) S) φ σ H Q) (em : Emb K G φ S H) (rv : RVs K H φ ds vs) (hp : H p = none) :
    Q (.ref p) (upd H p (.lst vs)) := by
  refine h (φ ++ [p]) (.ref p) _ (.new hp) (em.new hp (.lst upd_same (RVs.ext (.new hp) rv))) (.loc ?_)
  rw [← em.len]
  simp
theorem d_lst (h : PA X es (wpA X.K G W ms)) : PE X (.List es pos) (wpE X.K G W (mLst ms)) := by
  refine pe_conv (pe_lst h) ?_
  rintro σ H Q ⟨φ, ρ, S, em, rs, h⟩
  refine ⟨φ, ρ, S, em, rs, h.bind fun ds S1 φ1 vs H1 x em1 rv h1 => ?_⟩
  unfold lstD at h1
  split at h1
  · rename_i hl
    exact ⟨by rw [← RVs.length rv]; exact hl, fun p hp => h1.newL em1 rv hp⟩
  · exact h1.elim
end
/-! ### the operators' meanings -/
def addD (x y : D) (S : Sto) : Res D := match x, y with
  | .int i, .int j => .ok (.int (i + j)) S
  | .str a, .str b => if a.length + b.length ≤ sizeLine then .ok (.str (a ++ b)) S else .stuck
  | .loc l, .loc m => match S[l]?, S[m]? with
    | some (.lst _ xs), some (.lst _ ys) => if xs.length + ys.length ≤ sizeLine then newO (.lst false (xs ++ ys)) S else .stuck
    | _, _ => .stuck
  | .tup xs, .tup ys => if xs ≠ [] ∧ ys ≠ [] ∧ xs.length + ys.length ≤ sizeLine then .ok (.tup (xs ++ ys)) S else .stuck
  | _, _ => .stuck
/-- list + list, also of known ones -/
def rCatQ (K : PySem.W.Frag) : R2 := fun x y H Q => ∃ l b xs zs, x = .ref l ∧ y = .ref b ∧ SqL K H l xs ∧ SqL K H b zs ∧ xs.length + zs.length ≤ sizeLine ∧ ∀ p, H p = none → Q (.ref p) (upd H p (.lst (xs ++ zs)))
end
end MP

set_option Elab.async false
set_option linter.all false
set_option maxRecDepth 100000
set_option maxHeartbeats 2000000
namespace MP
open PySem L2
section
variable {X : Cx} {G : Ga} {W : WX} {k : Nat}
theorem op_catQ : OpR X (binaryOp .Add) (rCatQ X.K) := by
  intro pins s σ H x y v u Q I rx ry h
  obtain ⟨l, b, xs, zs, rfl, rfl, hH, hB, hz, q⟩ := h
  cases rx
  cases ry
  obtain ⟨its, r, pl, hl⟩ := I.list hH
  obtain ⟨its2, r2, pl2, hl2⟩ := I.list hB
  have e1 := r.length
  have e2 := r2.length
  obtain ⟨o, n, ho, hc, hdn, hd⟩ := pl
  obtain ⟨o', n', ho', hc', hdn', hd'⟩ := pl2
  obtain ⟨cls, dd, data, sl⟩ := o
  obtain ⟨cls', dd', data', sl'⟩ := o'
  simp only at hc hd hc' hd' hdn hdn'
  subst hc hd hc' hd' hdn hdn'
  refine PySem.concat_meets ⟨_, ho, rfl⟩ ⟨_, ho', rfl⟩ PySem.noFill_list_add PySem.seq_list_add PySem.F.slot_list_add PySem.F.entry_list_add (PySem.F.args_list_add_2 _ _)
    (PyProof.Rows.list_addW l b its.toArray its2.toArray n n' _ _ sl sl' (by simp; omega)) ⟨ho, ho', ?_⟩
  have ea : its.toArray ++ its2.toArray = (its ++ its2).toArray := by simp
  rw [ea]
  exact ⟨.ref _, _, I.lnew (t' := s.toks) (r.append r2) (by rw [List.length_append]; omega), rfl, q _ I.fresh⟩
def rAddU (K : PySem.W.Frag) : R2 := fun x y H Q => (rI0 (fun i j => .int (i + j))) x y H Q ∨ (∃ i j, x = .str i ∧ y = .str j ∧ i.length + j.length ≤ sizeLine ∧ Q (.str (i ++ j)) H) ∨ rCatQ K x y H Q ∨ rCatT K x y H Q
theorem op_addU : OpR X (binaryOp .Add) (rAddU X.K) := op_add.or (op_add_str.or (op_catQ.or op_catT))
theorem s_add {K : PySem.W.Frag} : OpS K G W addD (rAddU K) := by
  intro φ S σ H d1 d2 v1 v2 Q em r1 r2 h
  unfold addD at h
  split at h
  · cases r1; cases r2
    exact .inl ⟨_, _, rfl, rfl, outR.ok (R := rE K) h em .int⟩
  · cases r1; cases r2
    split at h
    · rename_i hl
      exact .inr (.inl ⟨_, _, rfl, rfl, hl, outR.ok (R := rE K) h em .str⟩)
    · exact h.elim
  · rename_i l m
    split at h
    · rename_i fz xs fz' ys e1 e2
      split at h
      · rename_i hl
        obtain ⟨a, rfl, ha, ro⟩ := em.at_loc e1 r1
        obtain ⟨b, rfl, hb, ro'⟩ := em.at_loc e2 r2
        obtain ⟨vs, hs, rv⟩ := ro.sql
        obtain ⟨vs', hs', rv'⟩ := ro'.sql
        refine .inr (.inr (.inl ⟨a, b, vs, vs', rfl, rfl, hs, hs', by rw [← RVs.length rv, ← RVs.length rv']; exact hl, fun p hp => ?_⟩))
        exact h.newL em (RVs.append rv rv') hp
      · exact h.elim
    · exact h.elim
  · split at h
    · rename_i hl
      cases r1 with
      | tup s1 q1 =>
        cases r2 with
        | tup s2 q2 =>
          have e1 := RVs.length q1
          have e2 := RVs.length q2
          refine .inr (.inr (.inr ⟨_, _, _, _, rfl, rfl, s1, s2, ?_, by rw [← e1, ← e2]; exact hl.2.2, ?_, ?_⟩))
          · intro z
            rw [z] at e1
            exact hl.1 (List.length_eq_zero_iff.mp e1)
          · intro z
            rw [z] at e2
            exact absurd (List.length_eq_zero_iff.mp e2) hl.2.1
          · intro _ p hp
            exact h φ _ _ (.other hp) (em.other hp) (.tup (.of upd_same) (RVs.ext (.other hp) (RVs.append q1 q2)))
    · exact h.elim
  · exact h.elim
/-- int operators -/
def intOp (f : Int → Int → Option Int) : D → D → Sto → Res D := fun x y S => match x, y with
  | .int i, .int j => match f i j with
    | some z => .ok (.int z) S
    | none => .stuck
  | _, _ => .stuck
theorem s_int {K : PySem.W.Frag} {f : Int → Int → Option Int} {C : Int → Int → Prop} {g : Int → Int → Int} (hf : ∀ i j z, f i j = some z → C i j ∧ z = g i j) : OpS K G W (intOp f) (rI C fun i j => .int (g i j)) := by
  intro φ S σ H d1 d2 v1 v2 Q em r1 r2 h
  unfold intOp at h
  split at h
  · cases r1; cases r2
    split at h
    · rename_i z e
      obtain ⟨c, rfl⟩ := hf _ _ _ e
      exact ⟨_, _, rfl, rfl, c, outR.ok (R := rE K) h em .int⟩
    · exact h.elim
  · exact h.elim
theorem s_int0 {K : PySem.W.Frag} {f : Int → Int → Option Int} {g : Int → Int → Int} (hf : ∀ i j z, f i j = some z → z = g i j) : OpS K G W (intOp f) (rI0 fun i j => .int (g i j)) := by
  intro φ S σ H d1 d2 v1 v2 Q em r1 r2 h
  unfold intOp at h
  split at h
  · cases r1; cases r2
    split at h
    · rename_i z e
      have := hf _ _ _ e
      subst this
      exact ⟨_, _, rfl, rfl, outR.ok (R := rE K) h em .int⟩
    · exact h.elim
  · exact h.elim
def subI (i j : Int) : Option Int := some (i - j)
def fdivI (i j : Int) : Option Int := if 0 < j ∧ j.natAbs.log2 < 9000 then some (i / j) else none
def modI (i j : Int) : Option Int := if 0 < j then some (i % j) else none
def powI (i j : Int) : Option Int := if 0 ≤ j ∧ j ≤ 1000000 ∧ i.natAbs < 2 ^ 64 then some (i ^ j.toNat) else none
def shlI (i j : Int) : Option Int := if 0 ≤ j ∧ (Builtin.Int.intBits i : Int) + j ≤ 2 ^ 27 then some (i * 2 ^ j.toNat) else none
def shrI (i j : Int) : Option Int := if 0 ≤ j then some (i / 2 ^ j.toNat) else none
def andI (i j : Int) : Option Int := some (Builtin.bitAnd i j)
def orI (i j : Int) : Option Int := some (Builtin.bitOr i j)
theorem ifs {c : Prop} [Decidable c] {z z' : Int} (h : (if c then some z' else none) = some z) : c ∧ z = z' := by
  split at h
  · rename_i hc; cases h; exact ⟨hc, rfl⟩
  · cases h
theorem s_sub {K : PySem.W.Frag} : OpS K G W (intOp subI) (rI0 fun i j => .int (i - j)) := s_int0 fun _ _ _ e => (Option.some.inj e).symm
theorem s_fdiv {K : PySem.W.Frag} : OpS K G W (intOp fdivI) (rI CDivW fun i j => .int (i / j)) := s_int fun _ _ _ e => by
  first | unfold fdivI at e | unfold modI at e | unfold powI at e | unfold shlI at e | unfold shrI at e
  have q := ifs e
  exact ⟨q.1, q.2⟩
theorem s_mod {K : PySem.W.Frag} : OpS K G W (intOp modI) (rI (fun _ j => 0 < j) fun i j => .int (i % j)) := s_int fun _ _ _ e => by
  first | unfold fdivI at e | unfold modI at e | unfold powI at e | unfold shlI at e | unfold shrI at e
  have q := ifs e
  exact ⟨q.1, q.2⟩
theorem s_pow {K : PySem.W.Frag} : OpS K G W (intOp powI) (rI CPow fun i j => .int (i ^ j.toNat)) := s_int fun _ _ _ e => by
  first | unfold fdivI at e | unfold modI at e | unfold powI at e | unfold shlI at e | unfold shrI at e
  have q := ifs e
  exact ⟨q.1, q.2⟩
theorem s_shl {K : PySem.W.Frag} : OpS K G W (intOp shlI) (rI CShl fun i j => .int (i * 2 ^ j.toNat)) := s_int fun _ _ _ e => by
  first | unfold fdivI at e | unfold modI at e | unfold powI at e | unfold shlI at e | unfold shrI at e
  have q := ifs e
  exact ⟨q.1, q.2⟩
theorem s_shr {K : PySem.W.Frag} : OpS K G W (intOp shrI) (rI (fun _ j => 0 ≤ j) fun i j => .int (i / 2 ^ j.toNat)) := s_int fun _ _ _ e => by
  first | unfold fdivI at e | unfold modI at e | unfold powI at e | unfold shlI at e | unfold shrI at e
  have q := ifs e
  exact ⟨q.1, q.2⟩
theorem s_band {K : PySem.W.Frag} : OpS K G W (intOp andI) (rI0 fun i j => .int (Builtin.bitAnd i j)) := s_int0 fun _ _ _ e => (Option.some.inj e).symm
theorem s_bor {K : PySem.W.Frag} : OpS K G W (intOp orI) (rI0 fun i j => .int (Builtin.bitOr i j)) := s_int0 fun _ _ _ e => (Option.some.inj e).symm
def mulD (x y : D) (S : Sto) : Res D := match x, y with
  | .int i, .int j => if (Builtin.Int.intBits i : Int) + (Builtin.Int.intBits j : Int) ≤ 134217728 then .ok (.int (i * j)) S else .stuck
  | .loc l, .int n => match S[l]? with
    | some (.lst false xs) => if -(2 ^ 63) ≤ n ∧ n < 2 ^ 63 ∧ xs.length * n.toNat ≤ sizeLine then newO (.lst false (List.replicate n.toNat xs).flatten) S else .stuck
    | _ => .stuck
  | _, _ => .stuck
def rMulU : R2 := fun x y H Q => (rI CMulX fun i j => .int (i * j)) x y H Q ∨ rRep x y H Q
theorem op_mulU : OpR X (binaryOp .Mult) rMulU := op_mulX.or op_rep
theorem RVs.rep {K : PySem.W.Frag} {H : Hp} {φ : List Addr} {xs : List D} {vs : List V} (r : RVs K H φ xs vs) : ∀ n : Nat, RVs K H φ (List.replicate n xs).flatten (List.replicate n vs).flatten
  | 0 => .nil
  | n + 1 => by
    rw [List.replicate_succ, List.replicate_succ, List.flatten_cons, List.flatten_cons]
    exact RVs.append r (RVs.rep r n)
theorem s_mul {K : PySem.W.Frag} : OpS K G W mulD rMulU := by
  intro φ S σ H d1 d2 v1 v2 Q em r1 r2 h
  unfold mulD at h
  split at h
  · cases r1; cases r2
    split at h
    · rename_i hl
      exact .inl ⟨_, _, rfl, rfl, hl, outR.ok (R := rE K) h em .int⟩
    · exact h.elim
  · split at h
    · rename_i xs e1
      split at h
      · rename_i hl
        obtain ⟨a, rfl, ha, ro⟩ := em.at_loc e1 r1
        obtain ⟨vs, hs, rv⟩ := ro.lstM
        cases r2
        refine .inr ⟨a, _, vs, rfl, rfl, hs, hl.1, hl.2.1, by rw [← RVs.length rv]; exact hl.2.2, fun p hp => ?_⟩
        exact h.newL em (RVs.rep rv _) hp
      · exact h.elim
    · exact h.elim
  · exact h.elim
/-! ### comparisons -/
def cmpI (p : Int → Int → Bool) : D → D → Sto → Res D := fun x y S => match x, y with
  | .int i, .int j => .ok (.bl (p i j)) S
  | _, _ => .stuck
theorem s_cmpI {K : PySem.W.Frag} {p : Int → Int → Bool} : OpS K G W (cmpI p) (rI0 fun i j => .bl (p i j)) := by
  intro φ S σ H d1 d2 v1 v2 Q em r1 r2 h
  unfold cmpI at h
  split at h
  · cases r1; cases r2
    exact ⟨_, _, rfl, rfl, outR.ok (R := rE K) h em .bl⟩
  · exact h.elim
def ltI (i j : Int) : Bool := decide (i < j)
def leI (i j : Int) : Bool := decide (i ≤ j)
def gtI (i j : Int) : Bool := decide (j < i)
def geI (i j : Int) : Bool := decide (j ≤ i)
def D.isN : D → Bool
  | .non => true
  | _ => false
theorem RV.isN {K : PySem.W.Frag} {H : Hp} {φ : List Addr} {d : D} {v : V} (r : RV K H φ d v) : decide (v = .non) = d.isN := by
  cases r <;> first | rfl | exact decide_eq_false (fun z => nomatch z)
def isD (x y : D) (S : Sto) : Res D := match y with
  | .non => .ok (.bl x.isN) S
  | _ => .stuck
def isNotD (x y : D) (S : Sto) : Res D := match y with
  | .non => .ok (.bl (!x.isN)) S
  | _ => .stuck
theorem s_is {K : PySem.W.Frag} : OpS K G W isD (fun x y H Q => y = .non ∧ Q (.bl (decide (x = .non))) H) := by
  intro φ S σ H d1 d2 v1 v2 Q em r1 r2 h
  unfold isD at h
  split at h
  · cases r2
    exact ⟨rfl, by rw [r1.isN]; exact outR.ok (R := rE K) h em .bl⟩
  · exact h.elim
theorem s_isNot {K : PySem.W.Frag} : OpS K G W isNotD (fun x y H Q => y = .non ∧ Q (.bl (!decide (x = .non))) H) := by
  intro φ S σ H d1 d2 v1 v2 Q em r1 r2 h
  unfold isNotD at h
  split at h
  · cases r2
    exact ⟨rfl, by rw [r1.isN]; exact outR.ok (R := rE K) h em .bl⟩
  · exact h.elim
/-- plain data as the library's == reads it -/
def D.scalar : D → Bool
  | .non => true | .bl _ => true | .int _ => true | .str _ => true | _ => false
def optAll {α β : Type} (f : α → Option β) : List α → Option (List β)
  | [] => some []
  | x :: xs => match f x, optAll f xs with
    | some y, some ys => some (y :: ys)
    | _, _ => none
def pd (S : Sto) : Nat → D → Option PyData
  | _, .non => some .none
  | _, .bl b => some (.bool b)
  | _, .int i => some (.int i)
  | _, .str x => some (.str x)
  | 0, .tup _ => none
  | 0, .loc _ => none
  | n + 1, .tup xs => (optAll (pd S n) xs).map .tuple
  | n + 1, .loc l => match S[l]? with
    | some (.lst _ xs) => (optAll (pd S n) xs).map .list
    | _ => none
theorem dp_all {K : PySem.W.Frag} {H : Hp} {φ : List Addr} {f : D → Option PyData} (ih : ∀ d v p, RV K H φ d v → f d = some p → Dp K H v p) : ∀ {ds : List D} {vs : List V} {ps : List PyData}, RVs K H φ ds vs → optAll f ds = some ps → DpAll K H vs ps
  | _, _, _, .nil, e => by cases e; exact .nil
  | _, _, _, .cons (d := d) (ds := ds) a b, e => by
    unfold optAll at e
    split at e
    · rename_i y ys e1 e2
      cases e
      exact .cons (ih _ _ _ a e1) (dp_all ih b e2)
    · cases e
theorem pd_dp {K : PySem.W.Frag} {φ : List Addr} {S : Sto} {H : Hp} (em : Emb K G φ S H) : ∀ (n : Nat) (d : D) (v : V) (p : PyData), RV K H φ d v → pd S n d = some p → Dp K H v p := by
  intro n
  induction n with
  | zero =>
    intro d v p r e
    cases r with
    | non => unfold pd at e; cases e; exact .non
    | bl => unfold pd at e; cases e; exact .bl _
    | int => unfold pd at e; cases e; exact .int _
    | str => unfold pd at e; cases e; exact .str _
    | tup s q => unfold pd at e; cases e
    | loc q => unfold pd at e; cases e
  | succ n ih =>
    intro d v p r e
    cases r with
    | non => unfold pd at e; cases e; exact .non
    | bl => unfold pd at e; cases e; exact .bl _
    | int => unfold pd at e; cases e; exact .int _
    | str => unfold pd at e; cases e; exact .str _
    | tup s q =>
      unfold pd at e
      obtain ⟨ps, e1, rfl⟩ := Option.map_eq_some_iff.mp e
      exact .tup s (dp_all ih q e1)
    | loc q =>
      unfold pd at e
      split at e
      · rename_i fz xs es
        obtain ⟨ps, e1, rfl⟩ := Option.map_eq_some_iff.mp e
        obtain ⟨vs, sq, rv⟩ := (em.ob _ _ _ es q).sql
        exact .lst sq (dp_all ih rv e1)
      · cases e
def deepEq (S : Sto) (x y : D) : Option Bool := match pd S 8 x, pd S 8 y with
  | some p, some q => if SeqAt.shaped p = true ∧ SeqAt.shaped q = true then some (PyData.eqv p q) else none
  | _, _ => none
def eqD (S : Sto) (x y : D) : Option Bool := match x, y with
  | .int i, .int j => some (decide (i = j))
  | .str a, .str b => some (decide (a = b))
  | .bl a, .bl b => some (decide (a = b))
  | .non, .non => some true
  | .non, .int _ => some false
  | .int _, .non => some false
  | .non, .str _ => some false
  | .str _, .non => some false
  | .non, .bl _ => some false
  | .bl _, .non => some false
  | .int _, .str _ => some false
  | .str _, .int _ => some false
  | .bl _, .str _ => some false
  | .str _, .bl _ => some false
  | x, y => deepEq S x y
theorem eqD_ok {K : PySem.W.Frag} {φ : List Addr} {S : Sto} {H : Hp} (em : Emb K G φ S H) {x y : D} {v u : V} {b : Bool} (r1 : RV K H φ x v) (r2 : RV K H φ y u) (h : eqD S x y = some b) :
    (scal v u = true ∧ decide (v = u) = b) ∨ ∃ p q, Dp K H v p ∧ Dp K H u q ∧ SeqAt.shaped p = true ∧ SeqAt.shaped q = true ∧ PyData.eqv p q = b := by
  have deep : deepEq S x y = some b → ∃ p q, Dp K H v p ∧ Dp K H u q ∧ SeqAt.shaped p = true ∧ SeqAt.shaped q = true ∧ PyData.eqv p q = b := by
    intro h
    unfold deepEq at h
    split at h
    · rename_i p q e1 e2
      split at h
      · rename_i hs
        cases h
        exact ⟨p, q, pd_dp em 8 x v p r1 e1, pd_dp em 8 y u q r2 e2, hs.1, hs.2, rfl⟩
      · cases h
    · cases h
  unfold eqD at h
  split at h
  · cases r1; cases r2; cases h; exact .inl ⟨rfl, decide_eq_decide.mpr ⟨fun z => V.int.inj z, fun z => by rw [z]⟩⟩
  · cases r1; cases r2; cases h; exact .inl ⟨rfl, decide_eq_decide.mpr ⟨fun z => V.str.inj z, fun z => by rw [z]⟩⟩
  · cases r1; cases r2; cases h; exact .inl ⟨rfl, decide_eq_decide.mpr ⟨fun z => V.bl.inj z, fun z => by rw [z]⟩⟩
  · cases r1; cases r2; cases h; exact .inl ⟨rfl, rfl⟩
  all_goals first
    | (cases r1; cases r2; cases h; exact .inl ⟨rfl, decide_eq_false (fun z => nomatch z)⟩)
    | exact .inr (deep h)
def eqR (x y : D) (S : Sto) : Res D := match eqD S x y with
  | some b => .ok (.bl b) S
  | none => .stuck
def neR (x y : D) (S : Sto) : Res D := match eqD S x y with
  | some b => .ok (.bl (!b)) S
  | none => .stuck
def rEqU (K : PySem.W.Frag) : R2 := fun x y H Q => rEq x y H Q ∨ rEqD K x y H Q
def rNeU (K : PySem.W.Frag) : R2 := fun x y H Q => rNe x y H Q ∨ rNeD K x y H Q
theorem op_eqU (d : DX X G W k) : OpR X (compareOp .Eq) (rEqU X.K) := op_eq.or (op_eqD d.hr.units)
theorem op_neU (d : DX X G W k) : OpR X (compareOp .NotEq) (rNeU X.K) := op_ne.or (op_neD d.hr.units)
theorem s_eq {K : PySem.W.Frag} : OpS K G W eqR (rEqU K) := by
  intro φ S σ H d1 d2 v1 v2 Q em r1 r2 h
  unfold eqR at h
  split at h
  · rename_i b e
    have q := outR.ok (R := rE K) h em .bl
    rcases eqD_ok em r1 r2 e with ⟨h1, h2⟩ | ⟨p, q', h1, h2, h3, h4, h5⟩
    · exact .inl ⟨h1, by rw [h2]; exact q⟩
    · exact .inr ⟨p, q', h1, h2, h3, h4, by rw [h5]; exact q⟩
  · exact h.elim
theorem s_ne {K : PySem.W.Frag} : OpS K G W neR (rNeU K) := by
  intro φ S σ H d1 d2 v1 v2 Q em r1 r2 h
  unfold neR at h
  split at h
  · rename_i b e
    have q := outR.ok (R := rE K) h em .bl
    rcases eqD_ok em r1 r2 e with ⟨h1, h2⟩ | ⟨p, q', h1, h2, h3, h4, h5⟩
    · exact .inl ⟨h1, by rw [h2]; exact q⟩
    · exact .inr ⟨p, q', h1, h2, h3, h4, by rw [h5]; exact q⟩
  · exact h.elim
/-! ### is it in: flat things in a list or a tuple -/
def flatD : D → Bool
  | .non => true | .bl _ => true | .int _ => true | .str _ => true | _ => false
/-- list, tuple: the items -/
def items (S : Sto) (d : D) : Option (List D) := match d with
  | .tup xs => some xs
  | .loc l => match S[l]? with
    | some (.lst _ xs) => some xs
    | _ => none
  | _ => none
theorem items_ok {K : PySem.W.Frag} {φ : List Addr} {S : Sto} {H : Hp} (em : Emb K G φ S H) {d : D} {v : V} {xs : List D} (r : RV K H φ d v) (h : items S d = some xs) : ∃ p vs, v = .ref p ∧ (SqL K H p vs ∨ SqT K H p vs) ∧ RVs K H φ xs vs := by
  unfold items at h
  split at h
  · cases r with
    | tup s q => cases h; exact ⟨_, _, rfl, .inr s, q⟩
  · split at h
    · rename_i fz ys e
      cases h
      obtain ⟨a, rfl, _, ro⟩ := em.at_loc e r
      obtain ⟨vs, sq, rv⟩ := ro.sql
      exact ⟨_, _, rfl, .inl sq, rv⟩
    · cases h
  · cases h
def eqFlat : D → D → Bool
  | .non, .non => true
  | .bl a, .bl b => a == b
  | .bl a, .int b => (if a then 1 else 0) == b
  | .int a, .bl b => a == (if b then 1 else 0)
  | .int a, .int b => a == b
  | .str a, .str b => a == b
  | _, _ => false
theorem flat_ok {K : PySem.W.Frag} {H : Hp} {φ : List Addr} {d : D} {v : V} (r : RV K H φ d v) (f : flatD d = true) : flatV v = true := by
  cases r <;> first | rfl | exact absurd (show false = true from f) Bool.false_ne_true
theorem flat_all {K : PySem.W.Frag} {H : Hp} {φ : List Addr} : ∀ {ds : List D} {vs : List V}, RVs K H φ ds vs → ds.all flatD = true → vs.all flatV = true
  | _, _, .nil, _ => rfl
  | _, _, .cons a b, f => by
    rw [List.all_cons, Bool.and_eq_true] at f ⊢
    exact ⟨flat_ok a f.1, flat_all b f.2⟩
theorem eqFlat_ok {K : PySem.W.Frag} {H : Hp} {φ : List Addr} {d e : D} {v u : V} (r : RV K H φ d v) (q : RV K H φ e u) (f : flatD d = true) (g : flatD e = true) : eqV v u = eqFlat d e := by
  cases r <;> cases q <;> first | rfl | exact absurd (show false = true from f) Bool.false_ne_true | exact absurd (show false = true from g) Bool.false_ne_true
def inFlat (x : D) (xs : List D) : Bool := xs.any fun y => eqFlat y x
theorem inFlat_ok {K : PySem.W.Frag} {H : Hp} {φ : List Addr} {x : D} {v : V} (r : RV K H φ x v) (f : flatD x = true) : ∀ {ds : List D} {vs : List V}, RVs K H φ ds vs → ds.all flatD = true → inV v vs = inFlat x ds
  | _, _, .nil, _ => rfl
  | _, _, .cons a b, g => by
    rw [List.all_cons, Bool.and_eq_true] at g
    have ih := inFlat_ok r f b g.2
    unfold inV at ih ⊢
    unfold inFlat at ih ⊢
    rw [List.any_cons, List.any_cons, ih, eqFlat_ok a r g.1 f]
end
end MP

set_option Elab.async false
set_option linter.all false
set_option maxRecDepth 100000
set_option maxHeartbeats 2000000
namespace MP
open PySem L2
section
variable {X : Cx} {G : Ga} {W : WX} {k : Nat}
/-! ### in -/
def inQ (neg : Bool) (x y : D) (S : Sto) : Res D := match items S y with
  | some ys => if flatD x = true ∧ ys.all flatD = true then .ok (.bl (if neg then !inFlat x ys else inFlat x ys)) S else .stuck
  | none => .stuck
theorem s_inQ {K : PySem.W.Frag} {neg : Bool} : OpS K G W (inQ neg) (rIn K neg) := by
  intro φ S σ H d1 d2 v1 v2 Q em r1 r2 h
  unfold inQ at h
  split at h
  · rename_i ys e
    split at h
    · rename_i hf
      obtain ⟨p, vs, rfl, hs, rv⟩ := items_ok em r2 e
      refine ⟨p, vs, rfl, hs, flat_ok r1 hf.1, flat_all rv hf.2, ?_⟩
      rw [inFlat_ok r1 hf.1 rv hf.2]
      exact outR.ok (R := rE K) h em .bl
    · exact h.elim
  · exact h.elim
/-! ### fields -/
def getF (f : Fl) (d : D) (S : Sto) : Res D := match d with
  | .loc l => match S[l]? with
    | some (.ins _ fs) => match fs.lookup f with
      | some x => .ok x S
      | none => .stuck
    | _ => .stuck
  | _ => .stuck
def mFld (f : Fl) (m : MEx) : MEx := fun ρ S => (m ρ S).bind (getF f)
def Fl.un (s : Str) : Option Fl :=
  if s = "many" then some .many else if s = "cells" then some .cells else if s = "inside" then some .inside else if s = "row" then some .row else if s = "last_words" then some .last_words
  else if s = "named" then some .named else if s = "made" then some .made else if s = "line" then some .line else if s = "heap" then some .heap else if s = "part" then some .part
  else if s = "to_go" then some .to_go else if s = "gone" then some .gone else if s = "rooms" then some .rooms else if s = "memory" then some .memory else if s = "marking" then some .marking
  else if s = "fence" then some .fence else if s = "rows" then some .rows else if s = "phase" then some .phase else if s = "room" then some .room else none
theorem Fl.un_nm (f : Fl) : Fl.un f.nm = some f := by cases f <;> decide +kernel
theorem Fl.nm_inj {f g : Fl} (h : f.nm = g.nm) : f = g := by
  have e := congrArg Fl.un h
  rw [Fl.un_nm, Fl.un_nm] at e
  exact Option.some.inj e
theorem RKs.look {K : PySem.W.Frag} {H : Hp} {φ : List Addr} {fs : List (Fl × D)} {vs : List (Str × V)} (r : RKs K H φ Fl.nm fs vs) {f : Fl} {d : D} (h : fs.lookup f = some d) : ∃ v, vs.lookup f.nm = some v ∧ RV K H φ d v := by
  induction r with
  | nil => cases h
  | @cons g e v ds ws a b ih =>
    by_cases hg : f = g
    · subst hg
      rw [List.lookup_cons_self] at h
      cases h
      exact ⟨v, List.lookup_cons_self, a⟩
    · have h1 : (f == g) = false := by simpa using hg
      have h2 : (f.nm == g.nm) = false := by
        cases q : (f.nm == g.nm) with
        | false => rfl
        | true => exact absurd (Fl.nm_inj (eq_of_beq q)) hg
      rw [List.lookup_cons, h1] at h
      obtain ⟨v', e1, r1⟩ := ih h
      exact ⟨v', by rw [List.lookup_cons, h2]; exact e1, r1⟩
theorem RKs.nolook {K : PySem.W.Frag} {H : Hp} {φ : List Addr} {fs : List (Fl × D)} {vs : List (Str × V)} (r : RKs K H φ Fl.nm fs vs) {m : Str} (h : ∀ f d, (f, d) ∈ fs → f.nm ≠ m) : vs.lookup m = none := by
  induction r with
  | nil => rfl
  | @cons g e v ds ws a b ih =>
    have h2 : (m == g.nm) = false := by
      cases q : (m == g.nm) with
      | false => rfl
      | true => exact absurd (eq_of_beq q).symm (h g e List.mem_cons_self)
    rw [List.lookup_cons, h2]
    exact ih fun f d hm => h f d (List.mem_cons_of_mem _ hm)
theorem Fl.look_mem {f : Fl} {d : D} : ∀ {fs : List (Fl × D)}, fs.lookup f = some d → (f, d) ∈ fs
  | [], h => by cases h
  | (g, e) :: fs, h => by
    by_cases hg : f = g
    · subst hg; rw [List.lookup_cons_self] at h; cases h; exact List.mem_cons_self
    · rw [List.lookup_cons, show (f == g) = false by simpa using hg] at h
      exact List.mem_cons_of_mem _ (Fl.look_mem h)
theorem d_fld {e : Expr} {m : MEx} {pos : Pos} {nm : Str} (f : Fl) (g : Gok X.K G) (he : PE X e (wpE X.K G W m)) (hf : f.nm = nm := by rfl) (hb : attributeBase e nm X.env (eval e X.env) = eval e X.env := by rfl) : PE X (.Attribute e nm pos) (wpE X.K G W (mFld f m)) := by
  subst hf
  refine pe_conv (pe_fld he hb) ?_
  rintro σ H Q ⟨φ, ρ, S, em, rs, h⟩
  refine ⟨φ, ρ, S, em, rs, h.bind fun d S1 φ1 v H1 x em1 rv h1 => ?_⟩
  unfold getF at h1
  split at h1
  · split at h1
    · rename_i l c fs es
      split at h1
      · rename_i y ey
        obtain ⟨a, rfl, ha, ro⟩ := em1.at_loc es rv
        cases ro with
        | ins e1 rk hh hall =>
          obtain ⟨w, ew, rw'⟩ := rk.look ey
          have hok : okF c f = true := List.all_eq_true.mp hall _ (Fl.look_mem ey)
          exact ⟨a, _, _, _, w, rfl, e1, g.cls c hh, g.noat c f hh hok, ew, outR.ok (R := rE X.K) h1 em1 rw'⟩
      · exact h1.elim
    · exact h1.elim
  · exact h1.elim
def putFl (f : Fl) (d : D) : List (Fl × D) → List (Fl × D)
  | [] => [(f, d)]
  | (g, e) :: r => if g = f then (g, d) :: r else (g, e) :: putFl f d r
theorem RKs.put {K : PySem.W.Frag} {H : Hp} {φ : List Addr} {fs : List (Fl × D)} {vs : List (Str × V)} (r : RKs K H φ Fl.nm fs vs) {f : Fl} {d : D} {v : V} (q : RV K H φ d v) : RKs K H φ Fl.nm (putFl f d fs) (putF f.nm v vs) := by
  induction r with
  | nil => exact .cons q .nil
  | @cons g e w ds ws a b ih =>
    unfold putFl putF
    by_cases hg : g = f
    · subst hg
      rw [if_pos rfl, if_pos rfl]
      exact .cons q b
    · rw [if_neg hg, if_neg (fun z => hg (Fl.nm_inj z))]
      exact .cons a ih
theorem putFl_all {c : Cl} {f : Fl} {d : D} (hf : okF c f = true) : ∀ {fs : List (Fl × D)}, fs.all (fun f => okF c f.1) = true → (putFl f d fs).all (fun f => okF c f.1) = true
  | [], _ => by unfold putFl; simp [hf]
  | (g, e) :: r, h => by
    rw [List.all_cons, Bool.and_eq_true] at h
    unfold putFl
    by_cases hg : g = f
    · rw [if_pos hg, List.all_cons, Bool.and_eq_true]; exact h
    · rw [if_neg hg, List.all_cons, Bool.and_eq_true]; exact ⟨h.1, putFl_all hf h.2⟩
def setF (f : Fl) (o v : D) (S : Sto) : Option Sto := match o with
  | .loc l => match S[l]? with
    | some (.ins c fs) => if okF c f = true ∧ fs.length < 1000 then some (S.set l (.ins c (putFl f v fs))) else none
    | _ => none
  | _ => none
def nxO (ρ : Rho) : Option Sto → SR
  | some S => .nx ρ S
  | none => .stuck
def sFldS (f : Fl) (mo mv : MEx) : MSt := fun ρ S => (mv ρ S).st ρ fun v S1 => (mo ρ S1).st ρ fun o S2 => nxO ρ (setF f o v S2)
theorem s_fld {o value : Expr} {pos pos' : Pos} {nm : Str} {mo mv : MEx} (f : Fl) (g : Gok X.K G) (ho : PE X o (wpE X.K G W mo)) (hv : PE X value (wpE X.K G W mv)) (hf : f.nm = nm := by rfl)
    (hs : swapsWith value (some (.Attribute o nm pos')) pos.line X.env = pure false := by rfl) : PS X (.Assign [.Attribute o nm pos'] value pos) (wpS X.K G W (sFldS f mo mv)) := by
  subst hf
  refine ps_conv (ps_fld ho hv hs) ?_
  rintro E σ H ⟨φ, ρ, S, em, rs, h⟩
  refine ⟨φ, ρ, S, em, rs, outR.st rs h fun v S1 φ1 y H1 x em1 rv h1 => ?_⟩
  refine ⟨φ1, ρ, S1, em1, rs.ext x, outR.st (rs.ext x) h1 fun o' S2 φ2 y2 H2 x2 em2 rv2 h2 => ?_⟩
  unfold setF at h2
  split at h2
  · split at h2
    · rename_i l c fs es
      split at h2
      · rename_i hc
        obtain ⟨a, rfl, ha, ro⟩ := em2.at_loc es rv2
        cases ro with
        | @ins _ _ ws _ dx e1 rk hh hall =>
          refine ⟨a, _, _, _, rfl, e1, g.cls c hh, g.noat c f hh hc.1, by rw [← rk.length]; exact hc.2, ?_⟩
          have n1 : ∀ xs, HO.ins (G.cl c) dx ws ≠ .tup xs := fun _ z => nomatch z
          have n2 : ∀ ob w, HO.ins (G.cl c) dx ws ≠ .frz ob w := fun _ _ z => nomatch z
          have xa : Ext φ2 H2 φ2 (upd H2 a (.ins (G.cl c) dx (putF f.nm y ws))) := .at e1 n1 n2
          have em3 := em2.set (o := .ins c (putFl f v fs)) (ho := .ins (G.cl c) dx (putF f.nm y ws)) es ha e1 n1 n2 rfl (.ins upd_same (rk.put (RV.ext x2 rv) |>.mono xa.2 List.prefix_rfl) hh (putFl_all hc.1 hall))
          exact h2 φ2 _ _ xa em3 ((rs.ext x).ext (x2.trans xa))
      · exact h2.elim
    · exact h2.elim
  · exact h2.elim
/-! ### o[i] -/
def getI (o i : D) (S : Sto) : Res D := match o, i with
  | .tup xs, .int j => match atI xs j with
    | some x => .ok x S
    | none => .stuck
  | .str z, .int j => if z.length ≤ sizeLine then match atI z.cps.toList j with
    | some c => .ok (.str ⟨#[c]⟩) S
    | none => .stuck
    else .stuck
  | .loc l, .int j => match S[l]? with
    | some (.lst _ xs) => match atI xs j with
      | some x => .ok x S
      | none => .stuck
    | _ => .stuck
  | _, _ => .stuck
theorem RVs.atI {K : PySem.W.Frag} {H : Hp} {φ : List Addr} {xs : List D} {vs : List V} (r : RVs K H φ xs vs) {j : Int} {d : D} (h : L2.atI xs j = some d) : ∃ v, L2.atI vs j = some v ∧ RV K H φ d v := by
  unfold L2.atI at h ⊢
  rw [← RVs.length r]
  obtain ⟨i, e1, e2⟩ := Option.bind_eq_some_iff.mp h
  obtain ⟨v, e3, r3⟩ := RVs.get r e2
  exact ⟨v, by rw [e1]; exact e3, r3⟩
theorem s_getI {K : PySem.W.Frag} : OpS K G W getI (rIx K) := by
  intro φ S σ H d1 d2 v1 v2 Q em r1 r2 h
  unfold getI at h
  split at h
  · split at h
    · rename_i x e
      cases r2
      cases r1 with
      | tup s q =>
        obtain ⟨v, ev, rv⟩ := RVs.atI q e
        exact .inr (.inl ⟨_, _, _, v, rfl, rfl, s, ev, outR.ok (R := rE K) h em rv⟩)
    · exact h.elim
  · split at h
    · rename_i hl
      split at h
      · rename_i c e
        cases r1; cases r2
        exact .inr (.inr ⟨_, _, c, rfl, rfl, hl, e, outR.ok (R := rE K) h em .str⟩)
      · exact h.elim
    · exact h.elim
  · split at h
    · rename_i fz xs es
      split at h
      · rename_i x e
        cases r2
        obtain ⟨a, rfl, ha, ro⟩ := em.at_loc es r1
        obtain ⟨vs, sq, rvs⟩ := ro.sql
        obtain ⟨v, ev, rv⟩ := RVs.atI rvs e
        exact .inl ⟨_, _, _, v, rfl, rfl, sq, ev, outR.ok (R := rE K) h em rv⟩
      · exact h.elim
    · exact h.elim
  · exact h.elim
theorem d_ix {a b : Expr} {ma mb : MEx} {pos : Pos} (ha : PE X a (wpE X.K G W ma)) (hb : PE X b (wpE X.K G W mb)) (hs : PlainIx b := by exact fun _ _ => rfl) : PE X (.Subscript a b pos) (wpE X.K G W (mOp2 getI ma mb)) :=
  pe_conv (pe_ix ix_seq ha hb hs) (op2 s_getI)
/-- o[i] = v, a list -/
def setI (o i v : D) (S : Sto) : Option Sto := match o, i with
  | .loc l, .int j => match S[l]? with
    | some (.lst false xs) => match ixN xs.length j with
      | some n => some (S.set l (.lst false (xs.set n v)))
      | none => none
    | _ => none
  | _, _ => none
def sSetL (mo mi mv : MEx) : MSt := fun ρ S => (mv ρ S).st ρ fun v S1 => (mo ρ S1).st ρ fun o S2 => (mi ρ S2).st ρ fun i S3 => nxO ρ (setI o i v S3)
theorem s_setL {o i value : Expr} {mo mi mv : MEx} {pos pos' : Pos} (ho : PE X o (wpE X.K G W mo)) (hi : PE X i (wpE X.K G W mi)) (hv : PE X value (wpE X.K G W mv))
    (ha : ∀ v, assign (.Subscript o i pos') X.env v = (do
      let ov ← holding [v] (eval o X.env)
      let iv ← holding [v, ov] (eval i X.env)
      standAt pos'
      holding [v, ov, iv] (setItem ov iv v)
      release [v, ov, iv] []) := by intro _; rfl)
    (hs : swapsWithSole [.Subscript o i pos'] value pos.line X.env = pure false := by rfl) (hw : swappedStores [.Subscript o i pos'] value X.env = pure none := by rfl)
    (h1 : (assignEach [.Subscript o i pos'] X.env).map (·.2) = [assign (.Subscript o i pos') X.env] := by rfl) : PS X (.Assign [.Subscript o i pos'] value pos) (wpS X.K G W (sSetL mo mi mv)) := by
  refine ps_conv (ps_asg hv (pg_sub ho hi set_list ha) hs hw h1) ?_
  rintro E σ H ⟨φ, ρ, S, em, rs, h⟩
  refine ⟨φ, ρ, S, em, rs, outR.st rs h fun v S1 φ1 y H1 x em1 rv h1 => ?_⟩
  refine ⟨φ1, ρ, S1, em1, rs.ext x, outR.st (rs.ext x) h1 fun o' S2 φ2 y2 H2 x2 em2 rv2 h2 => ?_⟩
  refine ⟨φ2, ρ, S2, em2, (rs.ext x).ext x2, outR.st ((rs.ext x).ext x2) h2 fun i' S3 φ3 y3 H3 x3 em3 rv3 h3 => ?_⟩
  unfold setI at h3
  split at h3
  · split at h3
    · rename_i l j xs es
      split at h3
      · rename_i n en
        obtain ⟨a, rfl, ha, ro⟩ := em3.at_loc es (RV.ext x3 rv2)
        obtain ⟨vs, e1, rvs⟩ := ro.lstM
        cases rv3
        refine ⟨a, vs, _, n, rfl, rfl, e1, by rw [← RVs.length rvs]; exact en, ?_⟩
        have n1 : ∀ xs, HO.lst vs ≠ .tup xs := fun _ z => nomatch z
        have n2 : ∀ ob w, HO.lst vs ≠ .frz ob w := fun _ _ z => nomatch z
        have xa : Ext φ3 H3 φ3 (upd H3 a (.lst (vs.set n y))) := .at e1 n1 n2
        have em4 := em3.set (o := .lst false (xs.set n v)) (ho := .lst (vs.set n y)) es ha e1 n1 n2 rfl (.lst upd_same (RVs.ext xa (RVs.set (RV.ext (x2.trans x3) rv) n rvs)))
        exact h3 φ3 _ _ xa em4 (((rs.ext x).ext x2).ext (x3.trans xa))
      · exact h3.elim
    · exact h3.elim
  · exact h3.elim
/-! ### slices -/
def optI (d : D) (S : Sto) : Res (Option Int) := match d with
  | .int i => .ok (some i) S
  | _ => .stuck
abbrev MPt := Rho → Sto → Res (Option Int)
def ptNone : MPt := fun _ S => .ok none S
def ptSome (m : MEx) : MPt := fun ρ S => (m ρ S).bind optI
def rO : Hp → List Addr → Option Int → Option Int → Prop := fun _ _ a b => a = b
theorem po_conv {e : Option Expr} {t t' : TO} (h : PO X e t) (hh : ∀ σ H Q, t' σ H Q → t σ H Q) : PO X e t' := ⟨fun pins s σ H Q I ht => h.run pins s σ H Q I (hh _ _ _ ht)⟩
theorem p_none : PO X none (wp X.K G W rO ptNone) := po_conv po_none fun σ H Q ⟨φ, ρ, S, em, rs, h⟩ => outR.ok (R := rO) h em rfl
theorem p_some {e : Expr} {m : MEx} (h : PE X e (wpE X.K G W m)) : PO X (some e) (wp X.K G W rO (ptSome m)) := by
  refine po_conv (po_some h) ?_
  rintro σ H Q ⟨φ, ρ, S, em, rs, h⟩
  refine ⟨φ, ρ, S, em, rs, h.bind fun d S1 φ1 v H1 x em1 rv h1 => ?_⟩
  cases rv with
  | int => exact ⟨_, rfl, outR.ok (R := rO) h1 em1 rfl⟩
  | _ => exact h1.elim
def cutD (xs : List D) (lo hi : Option Int) : List D := (xs.drop (HT.sIx xs.length 0 lo)).take (HT.sIx xs.length xs.length hi - HT.sIx xs.length 0 lo)
def slD (o : D) (lo hi : Option Int) (S : Sto) : Res D := match o with
  | .loc l => match S[l]? with
    | some (.lst _ xs) => newO (.lst false (cutD xs lo hi)) S
    | _ => .stuck
  | .tup xs => .ok (.tup (cutD xs lo hi)) S
  | .str z => if z.length ≤ sizeLine then .ok (.str (cutS z lo hi)) S else .stuck
  | _ => .stuck
def mSl (mo : MEx) (ml mh : MPt) : MEx := fun ρ S => (mo ρ S).bind fun o S1 => (ml ρ S1).bind fun lo S2 => (mh ρ S2).bind fun hi S3 => slD o lo hi S3
end
end MP

set_option Elab.async false
set_option linter.all false
set_option maxRecDepth 100000
set_option maxHeartbeats 2000000
namespace MP
open PySem L2
section
variable {X : Cx} {G : Ga} {W : WX} {k : Nat}
def slD' (o : D) (lo hi : Option Int) (S : Sto) : Res D := match o with
  | .loc l => match S[l]? with
    | some (.lst _ xs) => newO (.lst false (cutD xs lo hi)) S
    | _ => .stuck
  | .tup xs => if HT.sIx xs.length 0 lo = 0 ∧ HT.sIx xs.length xs.length hi = xs.length then .stuck else .ok (.tup (cutD xs lo hi)) S
  | .str z => if z.length ≤ sizeLine then .ok (.str (cutS z lo hi)) S else .stuck
  | _ => .stuck
def mSl' (mo : MEx) (ml mh : MPt) : MEx := fun ρ S => (mo ρ S).bind fun o S1 => (ml ρ S1).bind fun lo S2 => (mh ρ S2).bind fun hi S3 => slD' o lo hi S3
theorem RVs.cut {K : PySem.W.Frag} {H : Hp} {φ : List Addr} {xs : List D} {vs : List V} (r : RVs K H φ xs vs) (lo hi : Option Int) : RVs K H φ (cutD xs lo hi) (cutV vs lo hi) := by
  unfold cutD cutV
  rw [← RVs.length r]
  exact RVs.take _ (RVs.drop _ r)
theorem d_sl {e : Expr} {lo hi : Option Expr} {m : MEx} {ml mh : MPt} {p2 pos : Pos} (he : PE X e (wpE X.K G W m)) (hl : PO X lo (wp X.K G W rO ml)) (hh : PO X hi (wp X.K G W rO mh)) : PE X (.Subscript e (.Slice lo hi none p2) pos) (wpE X.K G W (mSl' m ml mh)) := by
  refine pe_conv (pe_slice (sl_list.or (sl_tup.or sl_str)) he hl hh) ?_
  rintro σ H Q ⟨φ, ρ, S, em, rs, h⟩
  refine ⟨φ, ρ, S, em, rs, h.bind fun o S1 φ1 v H1 x em1 rv h1 => ?_⟩
  refine ⟨φ1, ρ, S1, em1, rs.ext x, h1.bind fun l S2 φ2 l' H2 x2 em2 rl h2 => ?_⟩
  refine ⟨φ2, ρ, S2, em2, (rs.ext x).ext x2, h2.bind fun u S3 φ3 u' H3 x3 em3 ru h3 => ?_⟩
  cases (show l = l' from rl)
  cases (show u = u' from ru)
  have rv3 := RV.ext (x2.trans x3) rv
  unfold slD' at h3
  split at h3
  · split at h3
    · rename_i l2 fz xs es
      obtain ⟨a, rfl, ha, ro⟩ := em3.at_loc es rv3
      obtain ⟨vs, sq, rvs⟩ := ro.sql
      exact .inl ⟨a, vs, rfl, sq, fun p hp => h3.newL em3 (RVs.cut rvs l u) hp⟩
    · exact h3.elim
  · split at h3
    · exact h3.elim
    · rename_i hn
      cases rv3 with
      | tup s q =>
        refine .inr (.inl ⟨_, _, rfl, s, by rw [← RVs.length q]; exact hn, fun p hp => ?_⟩)
        exact h3 φ3 _ _ (.other hp) (em3.other hp) (.tup (.of upd_same) (RVs.ext (.other hp) (RVs.cut q l u)))
  · split at h3
    · rename_i hl
      cases rv3
      exact .inr (.inr ⟨_, rfl, hl, outR.ok (R := rE X.K) h3 em3 .str⟩)
    · exact h3.elim
  · exact h3.elim

/-! ### what a def promises -/
def SpM (K : PySem.W.Frag) (G : Ga) (mf : MFn) (n : Nat) : Sp := fun vs H Q E => ∃ φ S ds, Emb K G φ S H ∧ RVs K H φ ds vs ∧ ds.length = n ∧ outR K G (fun c d _ H => E c d H) (rE K) (mf ds S) φ [] H Q
theorem SpM.len {K : PySem.W.Frag} {mf : MFn} {n : Nat} {vs : List V} {H : Hp} {Q : VK} {E : XK} (h : SpM K G mf n vs H Q E) : vs.length = n := by
  obtain ⟨φ, S, ds, em, rv, hl, _⟩ := h
  rw [← RVs.length rv]
  exact hl
theorem outR.resig {K : PySem.W.Frag} {W' : WX} {r : Res D} {φ : List Addr} {σ σ' : St} {H : Hp} {Q : VK} (hw : ∀ c d H, W c d σ H → W' c d σ' H) (h : outR K G W (rE K) r φ σ H Q) : outR K G W' (rE K) r φ σ' H Q := by
  cases r with
  | ok a S => exact h
  | exc e S =>
    intro φ' H' x em
    have q := h φ' H' x em
    unfold XW at q ⊢
    cases hv : e.v with
    | none => rw [hv] at q; exact hw _ _ _ q
    | some y => rw [hv] at q; exact fun d v h1 h2 => hw _ _ _ (q d v h1 h2)
  | stuck => exact h
/-- the body's end as a def's -/
def SR.fn : SR → Res D
  | .nx _ S => .ok .non S
  | .rt d S => .ok d S
  | .xc e _ S => .exc e S
  | _ => .stuck
def fnB (N : Nat) (body : MSt) : MFn := fun ds S => (body (ds.map some ++ List.replicate (N - ds.length) none) S).fn
theorem rs_start {K : PySem.W.Frag} {φ : List Addr} {H : Hp} {N : List Str} {ds : List D} {vs : List V} (r : RVs K H φ ds vs) : RS K φ (ds.map some ++ List.replicate (N.length - ds.length) none) (L2.start N vs) H := by
  have hl := RVs.length r
  unfold L2.start
  refine ⟨by simp [hl], fun i d e => ?_⟩
  by_cases hi : i < ds.length
  · rw [List.getElem?_append_left (by simpa using hi), List.getElem?_map] at e
    obtain ⟨d', e1, e2⟩ := Option.map_eq_some_iff.mp e
    cases e2
    obtain ⟨v, e3, r3⟩ := RVs.get r e1
    exact ⟨v, by rw [List.getElem?_append_left (by rw [List.length_map, ← hl]; exact hi), List.getElem?_map, e3]; rfl, r3⟩
  · rw [List.getElem?_append_right (by simpa using hi), List.getElem?_replicate] at e
    split at e
    · cases e
    · cases e
section
variable {P : Program} {w : World} {K : PySem.W.Frag} {mg : Str → Option Value} {base : Heap}
/-- THE RULE for a def -/
theorem mk_fn {x qual : Str} {st : Stmt} {f : Addr} {fd : FuncData} {N ps : List Str} {k : Nat} {m : MSt} (F : Fun K x qual st f fd) (S : FnScope N ps (defScope st))
    (hbody : ∀ (cdv : Value) (A : Around) (outer : List Env) (s : Shared) (H : Hp) (E : XK),
      DX (cxOf (L2.CX P w) P w K mg base N qual (defScope st) f cdv A outer s H E) G (fun c d _ H => E c d H) k →
      PSs (cxOf (L2.CX P w) P w K mg base N qual (defScope st) f cdv A outer s H E) (defBody st) (wpS K G (fun c d _ H => E c d H) m)) :
    FnOk P w K mg base (L2.CX P w) (k + 1) f fd ps (SpM K G (fnB N.length m) ps.length) := by
  refine F.okX S (fun vs H Q E h => h.len) fun cdv A outer s H vs Q E hr h => ?_
  refine ⟨_, hbody cdv A outer s H E ⟨rfl, takes_of rfl rfl rfl rfl, passes_of rfl, hr, S.nd⟩, ?_⟩
  obtain ⟨φ, S0, ds, em, rv, hl, h⟩ := h
  refine ⟨φ, _, S0, em, rs_start rv, ?_⟩
  unfold fnB at h
  cases q : m (ds.map some ++ List.replicate (N.length - ds.length) none) S0 with
  | nx ρ S' => rw [q] at h; exact fun φ' σ' H' x em' rs' => h φ' .non H' x em' .non
  | rt d S' => rw [q] at h; exact fun φ' v H' x em' rv' => h φ' v H' x em' rv'
  | bk ρ S' => rw [q] at h; exact h.elim
  | ct ρ S' => rw [q] at h; exact h.elim
  | xc e ρ S' =>
    rw [q] at h
    intro φ' σ' H' x em' rs'
    have z := h φ' H' x em'
    unfold XW at z ⊢
    cases hv : e.v with
    | none => rw [hv] at z; exact z
    | some y => rw [hv] at z; exact z
  | stuck => rw [q] at h; exact h.elim
end
/-- a def that is called by its name -/
structure FnG (P : Program) (w : World) (K : PySem.W.Frag) (mg : Str → Option Value) (base : Heap) (G : Ga) (k : Nat) (x : Str) (mf : MFn) (n : Nat) : Prop where
  ex : ∃ f fd ps, FnOk P w K mg base (L2.CX P w) k f fd ps (SpM K G mf n) ∧ mg x = some (.ref f) ∧ PySem.W.keepIn K (.ref f) = true ∧ Binds K fd ps []
/-- a method -/
structure FnC (P : Program) (w : World) (K : PySem.W.Frag) (mg : Str → Option Value) (base : Heap) (G : Ga) (k : Nat) (c : Cl) (m : Str) (mf : MFn) (n : Nat) : Prop where
  ex : ∃ f fd ps, FnOk P w K mg base (L2.CX P w) k f fd ps (SpM K G mf n) ∧ Meth K (G.cl c) m f ∧ Binds K fd ps [] ∧ G.has c = true
/-- a class that is called -/
structure FnM (P : Program) (w : World) (K : PySem.W.Frag) (mg : Str → Option Value) (base : Heap) (G : Ga) (k : Nat) (c : Cl) (mf : MFn) (n : Nat) : Prop where
  ex : ∃ f fd ps, FnOk P w K mg base (L2.CX P w) k f fd ps (SpM K G mf n) ∧ Mk K (G.cl c) f ∧ mg c.nm = some (.ref (G.cl c)) ∧ Binds K fd ps [] ∧ G.has c = true
def mCall (n : Nat) (mf : MFn) (ms : MAr) : MEx := fun ρ S => (ms ρ S).bind fun ds S1 => if ds.length = n then mf ds S1 else .stuck
theorem d_call {x : Str} {e : Expr} {es : List Expr} {j n : Nat} {mf : MFn} {ms : MAr} {p pos : Pos} (F : FnG X.prog X.w X.K X.mg X.base G j x mf n) (d : DX X G W k) (ha : PA X (e :: es) (wpA X.K G W ms)) (hj : j ≤ k := by decide) (hg : Gl X x := by rfl) (hdb : (x == ("__debug__" : Str)) = false := by decide)
    (he : starEach (e :: es) X.env = (false, eval e X.env) :: starEach es X.env := by rfl) (hpl : (backTo pos (starEach es X.env)).any (·.1) = false := by rfl) : PE X (.Call (.Name x p) (e :: es) [] pos) (wpE X.K G W (mCall n mf ms)) := by
  obtain ⟨f, fd, ps, hF, hm, hk, hb⟩ := F.ex
  refine pe_conv (pe_callS hF (d.hr.mono hj) hg hm hk hb (fun σ => passAt d.tk σ) ha hdb he hpl) ?_
  rintro σ H Q ⟨φ, ρ, S, em, rs, h⟩
  refine ⟨φ, ρ, S, em, rs, h.bind fun ds S1 φ1 vs H1 x em1 rv h1 => ?_⟩
  split at h1
  · rename_i hl
    exact ⟨φ1, S1, ds, em1, rv, hl, h1.resig fun _ _ _ z => z⟩
  · exact h1.elim
/-- nothing is raised -/
def noX {α : Type} : Res α → Res α
  | .exc _ _ => .stuck
  | r => r
abbrev W0 : WX := fun _ _ _ _ => False
theorem outR.noX {K : PySem.W.Frag} {r : Res D} {φ : List Addr} {σ : St} {H : Hp} {Q : VK} (h : outR K G W (rE K) (MP.noX r) φ σ H Q) : outR K G (fun c d _ H => E0 c d H) (rE K) r φ [] H Q := by
  cases r with
  | ok a S => exact h
  | exc e S => exact h.elim
  | stuck => exact h
def mCall0 (mf : MFn) : MEx := fun _ S => noX (mf [] S)
theorem d_call0 {x : Str} {j : Nat} {mf : MFn} {p pos : Pos} (F : FnG X.prog X.w X.K X.mg X.base G j x mf 0) (d : DX X G W k) (hj : j ≤ k := by decide) (hg : Gl X x := by rfl) (hdb : (x == ("__debug__" : Str)) = false := by decide) : PE X (.Call (.Name x p) [] [] pos) (wpE X.K G W (mCall0 mf)) := by
  obtain ⟨f, fd, ps, hF, hm, hk, hb⟩ := F.ex
  refine pe_conv (pe_call0 hF (d.hr.mono hj) hg hm hk hb .nil passL hdb) ?_
  rintro σ H Q ⟨φ, ρ, S, em, rs, h⟩
  exact ⟨φ, S, [], em, .nil, rfl, h.noX⟩
def tMethS (C : Addr) (m : Str) (sp : Sp) (E : St → XK) (ta : TE) (t : TA) : TE := fun σ H Q => ta σ H fun x H1 => ∃ a dx fs, x = .ref a ∧ H1 a = some (.ins C dx fs) ∧ fs.lookup m = none ∧ t σ H1 fun vs H2 => sp (x :: vs) H2 Q (E σ)
theorem pe_methS {CX : CXT} {C f : Addr} {fd : FuncData} {ps : List Str} {sp : Sp} {E : St → XK} {m : Str} {o e : Expr} {es : List Expr} {ta : TE} {t : TA} {apos pos : Pos} {pl : Sem Bool} (he : PE X o ta) (c : Cls X.K C) (hm : Meth X.K C m f) (F : FnOk X.prog X.w X.K X.mg X.base CX k f fd ps sp) (hr : Room k X.A) (hb : Binds X.K fd ps [])
    (hx : ∀ σ, PassesAt CX X σ (E σ)) (ha : PA X (e :: es) t)
    (hst : starEach (e :: es) X.env = (false, eval e X.env) :: starEach es X.env := by rfl) (hpl : (backTo pos (starEach es X.env)).any (·.1) = false := by rfl)
    (ht : eval (.Call (.Attribute o m apos) (e :: es) [] pos) X.env = (do
      let ov ← eval o X.env
      standAt apos.atName
      let (f, first) ← holding [ov] (getMethod ov m pl)
      callWith pos f first (backTo pos (starEach (e :: es) X.env)) (backToKw pos (keywordEach [] X.env))) := by rfl) :
    PE X (.Call (.Attribute o m apos) (e :: es) [] pos) (tMethS C m sp E ta t) := by
  refine ⟨fun pins s σ H Q I h => ?_⟩
  refine PySem.W.methodCall_KW (pl := pl) (thn (he.run pins s σ H _ I h) fun u s1 ⟨x, H1, I1, rx, a, dx, fs, ex, ea, l, q⟩ => ?_) ht
  subst ex
  obtain rfl : u = Value.ref a := rx
  refine getmeth_ok I1 ea c hm l ?_
  refine PySem.W.callWith_K (first := [.ref a]) (h₀ := X.base) I.ok.mod.kin hm.kp (thn (ha.run pos pins s1 σ H1 _ I1 q) fun us s2 ⟨vs, H2, I2, r, q2⟩ => ⟨I2.kIn, ?_⟩) hst hpl
  exact run_fnS (us := .ref a :: us) (vs := .ref a :: vs) F hr hb (hx σ) I2 (.cons rfl r) q2
def selfC (c : Cl) (d : D) (S : Sto) : Res D := match d with
  | .loc l => match S[l]? with
    | some (.ins c' _) => if c' = c then .ok d S else .stuck
    | _ => .stuck
  | _ => .stuck
def mMeth (c : Cl) (n : Nat) (mf : MFn) (mo : MEx) (ms : MAr) : MEx := fun ρ S => (mo ρ S).bind fun d S1 => (selfC c d S1).bind fun _ _ => (ms ρ S1).bind fun ds S2 => if ds.length + 1 = n then mf (d :: ds) S2 else .stuck
def mMeth0 (c : Cl) (mf : MFn) (mo : MEx) : MEx := fun ρ S => (mo ρ S).bind fun d S1 => (selfC c d S1).bind fun _ _ => noX (mf [d] S1)
/-- the names of a class's fields are no method's -/
def noFld (c : Cl) (m : Str) : Bool :=
  [Fl.many, .cells, .inside, .row, .last_words, .named, .made, .line, .heap, .part, .to_go, .gone, .rooms, .memory, .marking, .fence, .rows, .phase, .room].all fun f => !okF c f || f.nm != m
theorem noFld_ok {c : Cl} {m : Str} (h : noFld c m = true) (f : Fl) (hf : okF c f = true) : f.nm ≠ m := by
  have hm : f ∈ [Fl.many, .cells, .inside, .row, .last_words, .named, .made, .line, .heap, .part, .to_go, .gone, .rooms, .memory, .marking, .fence, .rows, .phase, .room] := by cases f <;> decide
  have q := List.all_eq_true.mp h f hm
  rw [hf] at q
  simpa using q
theorem self_ok {K : PySem.W.Frag} {c : Cl} {d : D} {S : Sto} {φ : List Addr} {H : Hp} {v : V} {α : Type} {f : Res α} {m : Str} (hn : noFld c m = true) (em : Emb K G φ S H) (r : RV K H φ d v)
    {R : Hp → List Addr → α → V → Prop} {σ : St} {Q : VK} (h : outR K G W R ((selfC c d S).bind fun _ _ => f) φ σ H Q) : outR K G W R f φ σ H Q ∧ ∃ a dx fs, v = .ref a ∧ H a = some (.ins (G.cl c) dx fs) ∧ fs.lookup m = none := by
  unfold selfC at h
  split at h
  · split at h
    · rename_i l c' fs es
      split at h
      · rename_i hc
        subst hc
        obtain ⟨a, rfl, ha, ro⟩ := em.at_loc es r
        cases ro with
        | ins e1 rk hh hall => exact ⟨h, a, _, _, rfl, e1, rk.nolook fun f d hm => noFld_ok hn f (List.all_eq_true.mp hall _ hm)⟩
      · exact h.elim
    · exact h.elim
  · exact h.elim
theorem d_meth {c : Cl} {m : Str} {o e : Expr} {es : List Expr} {j n : Nat} {mf : MFn} {mo : MEx} {ms : MAr} {apos pos : Pos} {pl : Sem Bool} (F : FnC X.prog X.w X.K X.mg X.base G j c m mf n) (g : Gok X.K G) (d : DX X G W k) (he : PE X o (wpE X.K G W mo)) (ha : PA X (e :: es) (wpA X.K G W ms)) (hj : j ≤ k := by decide) (hn : noFld c m = true := by decide +kernel)
    (hst : starEach (e :: es) X.env = (false, eval e X.env) :: starEach es X.env := by rfl) (hpl : (backTo pos (starEach es X.env)).any (·.1) = false := by rfl)
    (ht : eval (.Call (.Attribute o m apos) (e :: es) [] pos) X.env = (do
      let ov ← eval o X.env
      standAt apos.atName
      let (f, first) ← holding [ov] (getMethod ov m pl)
      callWith pos f first (backTo pos (starEach (e :: es) X.env)) (backToKw pos (keywordEach [] X.env))) := by rfl) :
    PE X (.Call (.Attribute o m apos) (e :: es) [] pos) (wpE X.K G W (mMeth c n mf mo ms)) := by
  obtain ⟨f, fd, ps, hF, hm, hb, hh⟩ := F.ex
  refine pe_conv (pe_methS (pl := pl) he (g.cls c hh) hm hF (d.hr.mono hj) hb (fun σ => passAt d.tk σ) ha hst hpl ht) ?_
  rintro σ H Q ⟨φ, ρ, S, em, rs, h⟩
  refine ⟨φ, ρ, S, em, rs, h.bind fun o' S1 φ1 v H1 x em1 rv h1 => ?_⟩
  obtain ⟨h2, a, dx, fs, e1, e2, e3⟩ := self_ok hn em1 rv h1
  refine ⟨a, dx, fs, e1, e2, e3, φ1, ρ, S1, em1, rs.ext x, h2.bind fun ds S2 φ2 vs H2 x2 em2 rvs h3 => ?_⟩
  split at h3
  · rename_i hl
    exact ⟨φ2, S2, o' :: ds, em2, .cons (RV.ext x2 rv) rvs, hl, h3.resig fun _ _ _ z => z⟩
  · exact h3.elim
theorem d_meth0 {c : Cl} {m : Str} {o : Expr} {j : Nat} {mf : MFn} {mo : MEx} {apos pos : Pos} {pl : Sem Bool} (F : FnC X.prog X.w X.K X.mg X.base G j c m mf 1) (g : Gok X.K G) (d : DX X G W k) (he : PE X o (wpE X.K G W mo)) (hj : j ≤ k := by decide) (hn : noFld c m = true := by decide +kernel)
    (ht : eval (.Call (.Attribute o m apos) [] [] pos) X.env = (do
      let ov ← eval o X.env
      standAt apos.atName
      let (f, first) ← holding [ov] (getMethod ov m pl)
      callWith pos f first (backTo pos (starEach [] X.env)) (backToKw pos (keywordEach [] X.env))) := by rfl) :
    PE X (.Call (.Attribute o m apos) [] [] pos) (wpE X.K G W (mMeth0 c mf mo)) := by
  obtain ⟨f, fd, ps, hF, hm, hb, hh⟩ := F.ex
  refine pe_conv (pe_meth0 (pl := pl) he (g.cls c hh) hm hF (d.hr.mono hj) hb .nil passL ht) ?_
  rintro σ H Q ⟨φ, ρ, S, em, rs, h⟩
  refine ⟨φ, ρ, S, em, rs, h.bind fun o' S1 φ1 v H1 x em1 rv h1 => ?_⟩
  obtain ⟨h2, a, dx, fs, e1, e2, e3⟩ := self_ok hn em1 rv h1
  exact ⟨a, dx, fs, e1, e2, e3, φ1, S1, [o'], em1, .cons rv .nil, rfl, h2.noX⟩
/-- a class called -/
def mkEnd (l : Nat) : Res D → Res D
  | .ok .non S => .ok (.loc l) S
  | _ => .stuck
def mMake (c : Cl) (n : Nat) (mf : MFn) (ms : MAr) : MEx := fun ρ S => (ms ρ S).bind fun ds S1 => if ds.length + 1 = n then mkEnd S1.length (mf (.loc S1.length :: ds) (S1 ++ [.ins c []])) else .stuck
theorem make_ok {K : PySem.W.Frag} {c : Cl} {n : Nat} {mf : MFn} {φ : List Addr} {S : Sto} {H : Hp} {σ : St} {Q : VK} {ds : List D} {vs : List V} (hh : G.has c = true) (em : Emb K G φ S H) (rv : RVs K H φ ds vs) (hl : ds.length + 1 = n)
    (h : outR K G W (rE K) (mkEnd S.length (mf (.loc S.length :: ds) (S ++ [.ins c []]))) φ σ H Q) (x dx : Addr) (nx : H x = none) (ndx : H dx = none) (ne : dx ≠ x) :
    SpM K G mf n (.ref x :: vs) (upd (upd H dx (.own x)) x (.ins (G.cl c) dx [])) (fun v H2 => v = .non ∧ Q (.ref x) H2) E0 := by
  have n2 : (upd H dx (.own x)) x = none := by rw [upd_ne ne.symm]; exact nx
  have x1 : Ext φ H φ (upd H dx (.own x)) := .other ndx
  have x2 : Ext φ (upd H dx (.own x)) (φ ++ [x]) (upd (upd H dx (.own x)) x (.ins (G.cl c) dx [])) := .new n2
  have em1 : Emb K G φ S (upd H dx (.own x)) := em.other ndx
  have em2 := em1.new (o := .ins c []) (ho := .ins (G.cl c) dx []) n2 (.ins upd_same .nil hh rfl)
  have hloc : (φ ++ [x])[S.length]? = some x := by rw [← em.len]; simp
  refine ⟨φ ++ [x], S ++ [.ins c []], .loc S.length :: ds, em2, .cons (.loc hloc) (RVs.ext (x1.trans x2) rv), hl, ?_⟩
  cases q : mf (.loc S.length :: ds) (S ++ [.ins c []]) with
  | ok d S' =>
    rw [q] at h
    cases d with
    | non =>
      intro φ' v H' x3 em3 r3
      cases r3
      exact ⟨rfl, h φ' (.ref x) H' ((x1.trans x2).trans x3) em3 (.loc (pre_get x3.1 hloc))⟩
    | _ => exact h.elim
  | exc e S' => rw [q] at h; exact h.elim
  | stuck => rw [q] at h; exact h.elim
theorem d_make {c : Cl} {x : Str} {e : Expr} {es : List Expr} {j n : Nat} {mf : MFn} {ms : MAr} {p pos : Pos} (F : FnM X.prog X.w X.K X.mg X.base G j c mf n) (d : DX X G W k) (ha : PA X (e :: es) (wpA X.K G W ms)) (hx : c.nm = x := by rfl) (hj : j + 1 ≤ k := by decide) (hg : Gl X x := by rfl) (hdb : (x == ("__debug__" : Str)) = false := by decide)
    (he : starEach (e :: es) X.env = (false, eval e X.env) :: starEach es X.env := by rfl) (hpl : (backTo pos (starEach es X.env)).any (·.1) = false := by rfl) : PE X (.Call (.Name x p) (e :: es) [] pos) (wpE X.K G W (mMake c n mf ms)) := by
  subst hx
  obtain ⟨f, fd, ps, hF, hM, hm, hb, hh⟩ := F.ex
  refine pe_conv (pe_make hM hF (d.hr.mono hj) hg hm hb .nil passL ha hdb he hpl) ?_
  rintro σ H Q ⟨φ, ρ, S, em, rs, h⟩
  refine ⟨φ, ρ, S, em, rs, h.bind fun ds S1 φ1 vs H1 x em1 rv h1 => ?_⟩
  split at h1
  · rename_i hl
    intro x dx nx ndx ne
    rw [List.append_nil]
    exact make_ok hh em1 rv hl h1 x dx nx ndx ne
  · exact h1.elim
theorem d_make0 {c : Cl} {x : Str} {j n : Nat} {mf : MFn} {p pos : Pos} (F : FnM X.prog X.w X.K X.mg X.base G j c mf n) (d : DX X G W k) (hx : c.nm = x := by rfl) (hj : j + 1 ≤ k := by decide) (hg : Gl X x := by rfl) (hdb : (x == ("__debug__" : Str)) = false := by decide) :
    PE X (.Call (.Name x p) [] [] pos) (wpE X.K G W (mMake c n mf aNil)) := by
  subst hx
  obtain ⟨f, fd, ps, hF, hM, hm, hb, hh⟩ := F.ex
  refine pe_conv (pe_make0 hM hF (d.hr.mono hj) hg hm hb .nil passL hdb) ?_
  rintro σ H Q ⟨φ, ρ, S, em, rs, h⟩
  have h1 : outR X.K G W (rE X.K) (if ([] : List D).length + 1 = n then mkEnd S.length (mf (.loc S.length :: []) (S ++ [.ins c []])) else .stuck) φ σ H Q := h
  split at h1
  · rename_i hl
    exact fun x dx nx ndx ne => make_ok hh em .nil hl h1 x dx nx ndx ne
  · exact h1.elim
end
end MP

set_option Elab.async false
set_option linter.all false
set_option maxRecDepth 100000
set_option maxHeartbeats 2000000
namespace MP
open PySem L2
section
variable {X : Cx} {G : Ga} {W : WX} {k : Nat}
/-! ### statements -/
def sNil : MSt := fun ρ S => .nx ρ S
def sSeq (a b : MSt) : MSt := fun ρ S => match a ρ S with
  | .nx ρ' S' => b ρ' S'
  | r => r
theorem ss_nil : PSs X [] (wpS X.K G W sNil) := by
  refine pss_conv pss_nil ?_
  rintro D σ H ⟨φ, ρ, S, em, rs, h⟩
  exact h φ σ H .refl em rs
theorem seq_ok {K : PySem.W.Frag} {a b : MSt} {D : Ends} {σ : St} {H : Hp} (h : wpS K G W (sSeq a b) D σ H) : wpS K G W a { D with nx := wpS K G W b D } σ H := by
  obtain ⟨φ, ρ, S, em, rs, h⟩ := h
  refine ⟨φ, ρ, S, em, rs, ?_⟩
  unfold sSeq at h
  cases q : a ρ S with
  | nx ρ' S' => rw [q] at h; exact fun φ' σ' H' x em' rs' => ⟨φ', ρ', S', em', rs', h.from x⟩
  | rt d S' => rw [q] at h; exact h
  | bk ρ' S' => rw [q] at h; exact h
  | ct ρ' S' => rw [q] at h; exact h
  | xc e ρ' S' => rw [q] at h; exact h
  | stuck => rw [q] at h; exact h
theorem ss_cons {st : Stmt} {rest : List Stmt} {a b : MSt} (h1 : PS X st (wpS X.K G W a)) (h2 : PSs X rest (wpS X.K G W b)) : PSs X (st :: rest) (wpS X.K G W (sSeq a b)) :=
  pss_conv (pss_cons h1 h2) fun D σ H h => seq_ok h
theorem ss_one {st : Stmt} {a : MSt} (h1 : PS X st (wpS X.K G W a)) : PSs X [st] (wpS X.K G W a) := pss_one h1
/-- dead slots are forgotten -/
def clr : List Nat → Rho → Rho
  | [], ρ => ρ
  | i :: is, ρ => (clr is ρ).set i none
def sClr (is : List Nat) (a : MSt) : MSt := fun ρ S => match a ρ S with
  | .nx ρ' S' => .nx (clr is ρ') S'
  | r => r
theorem RS.clr {K : PySem.W.Frag} {φ : List Addr} {ρ : Rho} {σ : St} {H : Hp} (h : RS K φ ρ σ H) : ∀ is : List Nat, RS K φ (MP.clr is ρ) σ H
  | [] => h
  | i :: is => by
    have q := RS.clr h is
    unfold MP.clr
    refine ⟨by simp [q.len], fun j d e => ?_⟩
    by_cases hj : i = j
    · subst hj
      rw [List.getElem?_set] at e
      simp at e
    · rw [List.getElem?_set_ne hj] at e
      exact q.at_ j d e
theorem s_clr {st : Stmt} {a : MSt} (is : List Nat) (h : PS X st (wpS X.K G W a)) : PS X st (wpS X.K G W (sClr is a)) := by
  refine ps_conv h ?_
  rintro D σ H ⟨φ, ρ, S, em, rs, h⟩
  refine ⟨φ, ρ, S, em, rs, ?_⟩
  unfold sClr at h
  cases q : a ρ S with
  | nx ρ' S' => rw [q] at h; exact fun φ' σ' H' x em' rs' => h φ' σ' H' x em' (rs'.clr is)
  | rt d S' => rw [q] at h; exact h
  | bk ρ' S' => rw [q] at h; exact h
  | ct ρ' S' => rw [q] at h; exact h
  | xc e ρ' S' => rw [q] at h; exact h
  | stuck => rw [q] at h; exact h
def sSet (i : Nat) (m : MEx) : MSt := fun ρ S => (m ρ S).st ρ fun d S1 => .nx (ρ.set i (some d)) S1
theorem s_set {i : Nat} {x : Str} {e : Expr} {m : MEx} {pos pos' : Pos} (d : DX X G W k) (he : PE X e (wpE X.K G W m)) (hi : X.N[i]? = some x := by rfl) (hx : Loc X.env.scope x := by first | exact Or.inl rfl | exact Or.inr rfl)
    (hs : swapsWith e (some (.Name x pos')) pos.line X.env = pure false := by rfl) (hf : X.fn x = true ∨ X.env.scope.names.lookup x = some .local := by first | exact .inl rfl | exact .inr rfl) : PS X (.Assign [.Name x pos'] e pos) (wpS X.K G W (sSet i m)) := by
  refine ps_conv (ps_set d.nd hi hx he hs hf) ?_
  rintro D σ H ⟨φ, ρ, S, em, rs, h⟩
  refine ⟨φ, ρ, S, em, rs, outR.st rs h fun v S1 φ1 y H1 x em1 rv h1 => ?_⟩
  exact h1 φ1 _ H1 .refl em1 ((rs.ext x).set i rv)
def sExpr (m : MEx) : MSt := fun ρ S => (m ρ S).st ρ fun _ S1 => .nx ρ S1
theorem s_expr {e : Expr} {m : MEx} {pos : Pos} (he : PE X e (wpE X.K G W m)) (hs : swapsWith e none pos.line X.env = pure false := by rfl) : PS X (.Expr e pos) (wpS X.K G W (sExpr m)) := by
  refine ps_conv (ps_expr he hs) ?_
  rintro D σ H ⟨φ, ρ, S, em, rs, h⟩
  refine ⟨φ, ρ, S, em, rs, outR.st rs h fun v S1 φ1 y H1 x em1 rv h1 => ?_⟩
  exact h1 φ1 σ H1 .refl em1 (rs.ext x)
def sRet (m : MEx) : MSt := fun ρ S => (m ρ S).st ρ fun d S1 => .rt d S1
theorem s_ret {e : Expr} {m : MEx} {pos : Pos} (he : PE X e (wpE X.K G W m)) : PS X (.Return (some e) pos) (wpS X.K G W (sRet m)) := by
  refine ps_conv (ps_ret he) ?_
  rintro D σ H ⟨φ, ρ, S, em, rs, h⟩
  refine ⟨φ, ρ, S, em, rs, outR.st rs h fun v S1 φ1 y H1 x em1 rv h1 => ?_⟩
  exact h1 φ1 y H1 .refl em1 rv
def sRetN : MSt := fun _ S => .rt .non S
theorem s_retN {pos : Pos} : PS X (.Return none pos) (wpS X.K G W sRetN) := by
  refine ps_conv ps_retN ?_
  rintro D σ H ⟨φ, ρ, S, em, rs, h⟩
  exact h φ .non H .refl em .non
def sIf (c : MTs) (a b : MSt) : MSt := fun ρ S => (c ρ S).st ρ fun t S1 => if t = true then a ρ S1 else b ρ S1
theorem s_if {c : Expr} {as bs : List Stmt} {mc : MTs} {a b : MSt} {pos : Pos} (hc : PT X c (wpT X.K G W mc)) (ha : PSs X as (wpS X.K G W a)) (hb : PSs X bs (wpS X.K G W b)) : PS X (.If c as bs pos) (wpS X.K G W (sIf mc a b)) := by
  refine ps_conv (ps_if hc ha hb) ?_
  rintro D σ H ⟨φ, ρ, S, em, rs, h⟩
  refine ⟨φ, ρ, S, em, rs, outR.st rs h fun t S1 φ1 t' H1 x em1 rv h1 => ?_⟩
  cases (show t = t' from rv)
  cases t with
  | true => exact ⟨φ1, ρ, S1, em1, rs.ext x, h1⟩
  | false => exact ⟨φ1, ρ, S1, em1, rs.ext x, h1⟩
theorem s_pass {pos : Pos} : PS X (.Pass pos) (wpS X.K G W sNil) := ps_conv ps_pass fun D σ H ⟨φ, ρ, S, em, rs, h⟩ => h φ σ H .refl em rs
def sBrk : MSt := fun ρ S => .bk ρ S
def sCont : MSt := fun ρ S => .ct ρ S
theorem s_break {pos : Pos} : PS X (.Break pos) (wpS X.K G W sBrk) := ps_conv ps_break fun D σ H ⟨φ, ρ, S, em, rs, h⟩ => h φ σ H .refl em rs
theorem s_continue {pos : Pos} : PS X (.Continue pos) (wpS X.K G W sCont) := ps_conv ps_continue fun D σ H ⟨φ, ρ, S, em, rs, h⟩ => h φ σ H .refl em rs
/-- never reached -/
def sNev : MSt := fun _ _ => .stuck
theorem s_never {st : Stmt} : PS X st (wpS X.K G W sNev) := ⟨fun _ _ _ _ _ _ ⟨_, _, _, _, _, h⟩ => h.elim⟩
def sAug (i : Nat) (f : D → D → Sto → Res D) (m : MEx) : MSt := fun ρ S => match ρ[i]? with
  | some (some x) => (m ρ S).st ρ fun y S1 => (f x y S1).st ρ fun z S2 => .nx (ρ.set i (some z)) S2
  | _ => .stuck
theorem s_aug {i : Nat} {x : Str} {e : Expr} {m : MEx} {op : Operator} {f : D → D → Sto → Res D} {r : R2} {pos pos' : Pos} (d : DX X G W k) (ho : PIp X op r) (hs : OpS X.K G W f r) (he : PE X e (wpE X.K G W m)) (hi : X.N[i]? = some x := by rfl) (hx : Loc X.env.scope x := by first | exact Or.inl rfl | exact Or.inr rfl)
    (hf : X.fn x = true ∨ X.env.scope.names.lookup x = some .local := by first | exact .inl rfl | exact .inr rfl) : PS X (.AugAssign (.Name x pos') op e pos) (wpS X.K G W (sAug i f m)) := by
  refine ps_conv (ps_aug d.nd hi hx he ho hf) ?_
  rintro D σ H ⟨φ, ρ, S, em, rs, h⟩
  unfold sAug at h
  split at h
  · rename_i x' e1
    obtain ⟨v, ev, rv⟩ := rs.at_ i x' e1
    refine ⟨v, ev, φ, ρ, S, em, rs, outR.st rs h fun y S1 φ1 y' H1 x1 em1 ry h1 => ?_⟩
    refine hs φ1 S1 σ H1 x' y v y' _ em1 (RV.ext x1 rv) ry (outR.st (rs.ext x1) h1 fun z S2 φ2 z' H2 x2 em2 rz h2 => ?_)
    exact h2 φ2 _ H2 .refl em2 (((rs.ext x1).ext x2).set i rz)
  · exact h.elim
theorem ip_addU : PIp X .Add (rI0 fun i j => .int (i + j)) := fun pins s σ H x y v u Q I r1 r2 h => ip_add pins s σ H x y v u Q I r1 r2 h
theorem ip_subU : PIp X .Sub (rI0 fun i j => .int (i - j)) := fun pins s σ H x y v u Q I r1 r2 h => ip_sub pins s σ H x y v u Q I r1 r2 h
def addI (i j : Int) : Option Int := some (i + j)
theorem s_addI {K : PySem.W.Frag} : OpS K G W (intOp addI) (rI0 fun i j => .int (i + j)) := s_int0 fun _ _ _ e => (Option.some.inj e).symm
/-! ### targets: a name, or names of a tuple's (a list's) items -/
inductive Tg where
  | nm (i : Nat)
  | tp (is : List Nat)
def setAll (σ : St) : List Nat → List V → St
  | i :: is, v :: vs => setAll (σ.set i (some v)) is vs
  | _, _ => σ
def setAllM (ρ : Rho) : List Nat → List D → Rho
  | i :: is, v :: vs => setAllM (ρ.set i (some v)) is vs
  | _, _ => ρ
theorem RS.setAll {K : PySem.W.Frag} {φ : List Addr} {H : Hp} : ∀ {is : List Nat} {ρ : Rho} {σ : St} {ds : List D} {vs : List V}, RS K φ ρ σ H → RVs K H φ ds vs → RS K φ (setAllM ρ is ds) (MP.setAll σ is vs) H
  | [], _, _, _, _, h, .nil => h
  | [], _, _, _, _, h, .cons _ _ => h
  | _ :: _, _, _, _, _, h, .nil => h
  | i :: is, ρ, σ, _, _, h, .cons a b => by
    show RS K φ (setAllM (ρ.set i _) is _) (MP.setAll (σ.set i _) is _) H
    exact RS.setAll (h.set i a) b
def gTg (K : PySem.W.Frag) : Tg → TG
  | .nm i => gName i
  | .tp is => fun v σ H Q => ∃ a xs, v = .ref a ∧ (SqT K H a xs ∨ SqL K H a xs) ∧ xs.length = is.length ∧ Q (setAll σ is xs) H
def tgM : Tg → D → Rho → Sto → Option Rho
  | .nm i, d, ρ, _ => some (ρ.set i (some d))
  | .tp is, d, ρ, S => match items S d with
    | some xs => if xs.length = is.length then some (setAllM ρ is xs) else none
    | none => none
theorem tg_ok {K : PySem.W.Frag} {t : Tg} {d : D} {ρ ρ' : Rho} {S : Sto} {φ : List Addr} {σ : St} {H : Hp} {v : V} {Q : St → Hp → Prop} (em : Emb K G φ S H) (rs : RS K φ ρ σ H) (rv : RV K H φ d v) (h : tgM t d ρ S = some ρ')
    (q : ∀ σ', RS K φ ρ' σ' H → Q σ' H) : gTg K t v σ H Q := by
  cases t with
  | nm i => cases h; exact q _ (rs.set i rv)
  | tp is =>
    simp only [tgM] at h
    split at h
    · rename_i xs e
      split at h
      · rename_i hl
        cases h
        obtain ⟨a, vs, rfl, hs, rvs⟩ := items_ok em rv e
        exact ⟨a, vs, rfl, hs.symm, by rw [← RVs.length rvs]; exact hl, q _ (rs.setAll rvs)⟩
      · cases h
    · cases h
def gNs (is : List Nat) : TGs := fun vs σ H Q => vs.length = is.length ∧ Q (setAll σ is vs) H
theorem gs_nil : PGs X [] (gNs []) := ⟨fun pins s σ H vs us Q I r h => pgs_nil.run pins s σ H vs us Q I r ⟨List.length_eq_zero_iff.mp h.1, by
  have e : vs = [] := List.length_eq_zero_iff.mp h.1
  subst e
  exact h.2⟩⟩
theorem gs_cons {i : Nat} {is : List Nat} {x : Str} {es : List Expr} {pos : Pos} (d : DX X G W k) (hr : PGs X es (gNs is)) (hi : X.N[i]? = some x := by rfl) (hx : Loc X.env.scope x := by first | exact Or.inl rfl | exact Or.inr rfl)
    (hf : X.fn x = true ∨ X.env.scope.names.lookup x = some .local := by first | exact .inl rfl | exact .inr rfl)
    (hs : (assignEach (.Name x pos :: es) X.env).map (·.2) = assign (.Name x pos) X.env :: (assignEach es X.env).map (·.2) := by rfl) : PGs X (.Name x pos :: es) (gNs (i :: is)) := by
  refine ⟨fun pins s σ H vs us Q I r h => ?_⟩
  refine (pgs_cons (pg_name d.nd hi hx hf) hr hs).run pins s σ H vs us Q I r ?_
  obtain ⟨hl, hq⟩ := h
  cases vs with
  | nil => simp at hl
  | cons v vs => exact ⟨v, vs, rfl, by simpa using hl, hq⟩
theorem g_nm {i : Nat} {x : Str} {pos : Pos} (d : DX X G W k) (hi : X.N[i]? = some x := by rfl) (hx : Loc X.env.scope x := by first | exact Or.inl rfl | exact Or.inr rfl)
    (hf : X.fn x = true ∨ X.env.scope.names.lookup x = some .local := by first | exact .inl rfl | exact .inr rfl) : PG X (.Name x pos) (gTg X.K (.nm i)) := pg_name d.nd hi hx hf
theorem g_tp {es : List Expr} {kk : Nat} {is : List Nat} {pos : Pos} (d : DX X G W k) (h : PGs X es (gNs is)) (hn : (assignEach es X.env).length = is.length := by rfl) (hst : (assignEach es X.env).findIdx? (·.1) = none := by rfl) : PG X (.Tuple es kk pos) (gTg X.K (.tp is)) := by
  refine pg_conv (pg_or2 (pg_tup d.calm h hn hst) (pg_lst d.calm h hn hst)) ?_
  rintro v σ H Q ⟨a, xs, rfl, hs, hl, hq⟩
  rcases hs with hs | hs
  · exact .inl ⟨a, xs, rfl, hs, hl, hl, hq⟩
  · exact .inr ⟨a, xs, rfl, hs, hl, hl, hq⟩
def sTgO (r : Option Rho) (S : Sto) : SR := match r with
  | some ρ => .nx ρ S
  | none => .stuck
def sAsg (t : Tg) (m : MEx) : MSt := fun ρ S => (m ρ S).st ρ fun d S1 => sTgO (tgM t d ρ S1) S1
theorem s_asg {tg e : Expr} {t : Tg} {m : MEx} {pos : Pos} (he : PE X e (wpE X.K G W m)) (hg : PG X tg (gTg X.K t)) (hs : swapsWithSole [tg] e pos.line X.env = pure false := by rfl) (hw : swappedStores [tg] e X.env = pure none := by rfl)
    (h1 : (assignEach [tg] X.env).map (·.2) = [assign tg X.env] := by rfl) : PS X (.Assign [tg] e pos) (wpS X.K G W (sAsg t m)) := by
  refine ps_conv (ps_asg he hg hs hw h1) ?_
  rintro D σ H ⟨φ, ρ, S, em, rs, h⟩
  refine ⟨φ, ρ, S, em, rs, outR.st rs h fun d S1 φ1 v H1 x em1 rv h1 => ?_⟩
  cases q : tgM t d ρ S1 with
  | none => rw [q] at h1; exact h1.elim
  | some ρ' =>
    rw [q] at h1
    exact tg_ok em1 (rs.ext x) rv q fun σ' rs' => h1 φ1 σ' H1 .refl em1 rs'
/-! ### while -/
def whileN (c : MTs) (b : MSt) : Nat → MSt
  | 0 => fun _ _ => .stuck
  | n + 1 => fun ρ S => (c ρ S).st ρ fun t S1 => if t = true then
      match b ρ S1 with
      | .nx ρ' S' => whileN c b n ρ' S'
      | .ct ρ' S' => whileN c b n ρ' S'
      | .bk ρ' S' => .nx ρ' S'
      | r => r
    else .nx ρ S1
def FUEL : Nat := 1000000
def sWhile (c : MTs) (b : MSt) : MSt := whileN c b FUEL
theorem s_while {c : Expr} {body : List Stmt} {mc : MTs} {mb : MSt} {pos : Pos} (d : DX X G W k) (hc : PT X c (wpT X.K G W mc)) (hb : PSs X body (wpS X.K G W mb)) : PS X (.While c body [] pos) (wpS X.K G W (sWhile mc mb)) := by
  refine ps_conv (ps_while d.pn hc hb) ?_
  intro D σ H h
  refine ⟨fun m σ H => wpS X.K G W (whileN mc mb m) D σ H, ⟨FUEL, h⟩, fun m σ H h => ?_⟩
  obtain ⟨φ, ρ, S, em, rs, h⟩ := h
  cases m with
  | zero => exact h.elim
  | succ n =>
    refine ⟨φ, ρ, S, em, rs, outR.st rs h fun t S1 φ1 t' H1 x em1 rv h1 => ?_⟩
    cases (show t = t' from rv)
    cases t with
    | false => exact h1 φ1 σ H1 .refl em1 (rs.ext x)
    | true =>
      rw [if_pos rfl] at h1 ⊢
      refine ⟨fun σ' H' => wpS X.K G W (whileN mc mb n) D σ' H', fun σ' H' z => ⟨n, Nat.lt_succ_self n, z⟩, φ1, ρ, S1, em1, rs.ext x, ?_⟩
      cases q : mb ρ S1 with
      | nx ρ' S' => rw [q] at h1; exact fun φ' σ' H' x' em' rs' => ⟨φ', ρ', S', em', rs', h1.from x'⟩
      | ct ρ' S' => rw [q] at h1; exact fun φ' σ' H' x' em' rs' => ⟨φ', ρ', S', em', rs', h1.from x'⟩
      | bk ρ' S' => rw [q] at h1; exact h1
      | rt d S' => rw [q] at h1; exact h1
      | xc e ρ' S' => rw [q] at h1; exact h1
      | stuck => rw [q] at h1; exact h1
/-! ### for -/
structure MIt where
  get : Nat → Sto → Option (Option D)
  fuel : Nat
def ItOk (K : PySem.W.Frag) (G : Ga) (it : MIt) (J : It) (φ0 : List Addr) (H0 : Hp) : Prop :=
  ∀ (i : Nat) φ S H, Ext φ0 H0 φ H → Emb K G φ S H → match it.get i S with
    | none => True
    | some none => J.stop i H
    | some (some d) => J.go i H ∧ ∀ y H', J.yld i H y H' → Ext φ H φ H' ∧ Emb K G φ S H' ∧ RV K H' φ d y
abbrev MIx := Rho → Sto → Res MIt
def wpI (K : PySem.W.Frag) (G : Ga) (W : WX) (m : MIx) : TI := fun σ H R => ∃ φ ρ S, Emb K G φ S H ∧ RS K φ ρ σ H ∧
  match m ρ S with
  | .ok it S' => ∀ φ' J H', Ext φ H φ' H' → Emb K G φ' S' H' → ItOk K G it J φ' H' → R J H'
  | .exc e S' => ∀ φ' H', Ext φ H φ' H' → Emb K G φ' S' H' → XW K G W e φ' σ H'
  | .stuck => False
def forGo (it : MIt) (t : Tg) (b : MSt) : Nat → Nat → MSt
  | 0, _ => fun _ _ => .stuck
  | n + 1, i => fun ρ S => match it.get i S with
    | none => .stuck
    | some none => .nx ρ S
    | some (some d) => match tgM t d ρ S with
      | none => .stuck
      | some ρ1 => match b ρ1 S with
        | .nx ρ' S' => forGo it t b n (i + 1) ρ' S'
        | .ct ρ' S' => forGo it t b n (i + 1) ρ' S'
        | .bk ρ' S' => .nx ρ' S'
        | r => r
def sFor (mi : MIx) (t : Tg) (b : MSt) : MSt := fun ρ S => (mi ρ S).st ρ fun it S1 => forGo it t b it.fuel 0 ρ S1
theorem s_for {tg iter : Expr} {body : List Stmt} {mi : MIx} {t : Tg} {mb : MSt} {pos : Pos} (d : DX X G W k) (hi : PI X tg iter (wpI X.K G W mi)) (hg : PG X tg (gTg X.K t)) (hb : PSs X body (wpS X.K G W mb))
    (hs : ∀ x, foldedSetIterable iter X.env x = pure x := by intro _; rfl) : PS X (.For tg iter body [] pos) (wpS X.K G W (sFor mi t mb)) := by
  refine ps_conv (ps_for d.pn d.calm hi hg hb hs) ?_
  rintro D σ H ⟨φ, ρ, S, em, rs, h⟩
  refine ⟨φ, ρ, S, em, rs, ?_⟩
  unfold sFor at h
  cases q : mi ρ S with
  | stuck => rw [q] at h; exact h
  | exc e S' => rw [q] at h; exact fun φ' H' x em' => h φ' σ H' x em' (rs.ext x)
  | ok it S1 =>
    rw [q] at h
    intro φ1 J H1 x1 em1 hJ
    refine ⟨fun i m σ H => ∃ φ ρ S, Ext φ1 H1 φ H ∧ Emb X.K G φ S H ∧ RS X.K φ ρ σ H ∧ outS X.K G W (forGo it t mb m i ρ S) φ H D, ⟨it.fuel, φ1, ρ, S1, .refl, em1, rs.ext x1, outS.from x1 h⟩, ?_⟩
    rintro i m σ2 H2 ⟨φ2, ρ2, S2, x2, em2, rs2, h2⟩
    cases m with
    | zero => exact h2.elim
    | succ n =>
      have hj := hJ i φ2 S2 H2 x2 em2
      unfold forGo at h2
      cases hget : it.get i S2 with
      | none => rw [hget] at h2; exact h2.elim
      | some od =>
        cases od with
        | none => rw [hget] at h2 hj; exact .inl ⟨hj, h2 φ2 σ2 H2 .refl em2 rs2⟩
        | some dv =>
          rw [hget] at h2 hj
          refine .inr ⟨hj.1, fun σ' H' => ∃ φ ρ S, Ext φ1 H1 φ H' ∧ Emb X.K G φ S H' ∧ RS X.K φ ρ σ' H' ∧ outS X.K G W (forGo it t mb n (i + 1) ρ S) φ H' D, fun σ' H' z => ⟨n, Nat.lt_succ_self n, z⟩, fun y H3 hy => ?_⟩
          obtain ⟨x3, em3, rv⟩ := hj.2 y H3 hy
          cases ht : tgM t dv ρ2 S2 with
          | none => simp only [ht] at h2; exact h2.elim
          | some ρ3 =>
            simp only [ht] at h2
            refine tg_ok em3 (rs2.ext x3) rv ht fun σ3 rs3 => ⟨φ2, ρ3, S2, em3, rs3, ?_⟩
            have h2' := outS.from x3 h2
            cases qb : mb ρ3 S2 with
            | nx ρ' S' => rw [qb] at h2'; exact fun φ' σ' H' x' em' rs' => ⟨φ', ρ', S', (x2.trans x3).trans x', em', rs', h2'.from x'⟩
            | ct ρ' S' => rw [qb] at h2'; exact fun φ' σ' H' x' em' rs' => ⟨φ', ρ', S', (x2.trans x3).trans x', em', rs', h2'.from x'⟩
            | bk ρ' S' => rw [qb] at h2'; exact h2'
            | rt d S' => rw [qb] at h2'; exact h2'
            | xc e ρ' S' => rw [qb] at h2'; exact h2'
            | stuck => rw [qb] at h2'; exact h2'
end
end MP

set_option Elab.async false
set_option linter.all false
set_option maxRecDepth 100000
set_option maxHeartbeats 2000000
namespace MP
open PySem L2
section
variable {X : Cx} {G : Ga} {W : WX} {k : Nat}
/-! ### what is walked -/
def altI (a b : MIx) : MIx := fun ρ S => match a ρ S with
  | .stuck => b ρ S
  | r => r
theorem i_alt {tg e : Expr} {a b : MIx} (ha : PI X tg e (wpI X.K G W a)) (hb : PI X tg e (wpI X.K G W b)) : PI X tg e (wpI X.K G W (altI a b)) := by
  refine pi_conv (pi_or2 ha hb) ?_
  rintro σ H Q ⟨φ, ρ, S, em, rs, h⟩
  unfold altI at h
  cases q : a ρ S with
  | ok d S' => rw [q] at h; exact .inl ⟨φ, ρ, S, em, rs, by rw [q]; exact h⟩
  | exc d S' => rw [q] at h; exact .inl ⟨φ, ρ, S, em, rs, by rw [q]; exact h⟩
  | stuck => rw [q] at h; exact .inr ⟨φ, ρ, S, em, rs, h⟩
def Res.it {α : Type} (r : Res α) (f : α → Sto → Option MIt) : Res MIt := r.bind fun a S => match f a S with
  | some it => .ok it S
  | none => .stuck
def lstGet (l : Nat) : Nat → Sto → Option (Option D) := fun i S => match S[l]? with
  | some (.lst _ xs) => some xs[i]?
  | _ => none
def itL (d : D) (S : Sto) : Option MIt := match d with
  | .loc l => match S[l]? with
    | some (.lst _ xs) => some ⟨lstGet l, xs.length + 1⟩
    | _ => none
  | _ => none
def miL (m : MEx) : MIx := fun ρ S => (m ρ S).it itL
theorem sq_inj {K : PySem.W.Frag} {H : Hp} {φ : List Addr} {fz : Bool} {xs : List D} {a : Addr} (ro : RO K G H φ (.lst fz xs) a) : ∃ vs, SqL K H a vs ∧ RVs K H φ xs vs := ro.sql
theorem it_list {K : PySem.W.Frag} {l : Nat} {a : Addr} {n : Nat} {φ0 : List Addr} {H0 : Hp} (ha : φ0[l]? = some a) : ItOk K G ⟨lstGet l, n⟩ (Itl K a) φ0 H0 := by
  intro i φ S H x em
  have ha' := pre_get x.1 ha
  show match lstGet l i S with | none => True | some none => _ | some (some d) => _
  unfold lstGet
  split
  · trivial
  · rename_i e
    split at e
    · rename_i fz xs es
      obtain ⟨vs, sq, rv⟩ := (em.ob l _ a es ha').sql
      have e' : xs[i]? = none := Option.some.inj e
      exact ⟨vs, sq, by rw [← RVs.length rv]; exact List.getElem?_eq_none_iff.mp e'⟩
    · cases e
  · rename_i d e
    split at e
    · rename_i fz xs es
      obtain ⟨vs, sq, rv⟩ := (em.ob l _ a es ha').sql
      have e' : xs[i]? = some d := Option.some.inj e
      obtain ⟨v, ev, r⟩ := RVs.get rv e'
      refine ⟨⟨vs, v, sq, ev⟩, ?_⟩
      rintro y H' ⟨rfl, hy⟩
      have := hy vs sq
      rw [ev] at this
      cases this
      exact ⟨.refl, em, r⟩
    · cases e
theorem i_list {tg e : Expr} {m : MEx} (he : PE X e (wpE X.K G W m)) : PI X tg e (wpI X.K G W (miL m)) := by
  refine pi_conv (pi_list he) ?_
  rintro σ H R ⟨φ, ρ, S, em, rs, h⟩
  refine ⟨φ, ρ, S, em, rs, ?_⟩
  unfold miL Res.it at h
  cases q : m ρ S with
  | stuck => rw [q] at h; exact h
  | exc e S' => rw [q] at h; exact h
  | ok d S1 =>
    rw [q] at h
    intro φ1 v H1 x1 em1 rv
    simp only [Res.bind_ok] at h
    unfold itL at h
    split at h
    · rename_i it S2 hh
      split at hh
      · rename_i it' e1
        split at e1
        · rename_i l
          split at e1
          · rename_i fz xs es
            cases e1
            cases hh
            obtain ⟨a, rfl, ha, ro⟩ := em1.at_loc es rv
            obtain ⟨vs, sq, _⟩ := ro.sql
            exact ⟨a, rfl, ⟨vs, sq⟩, h φ1 _ H1 x1 em1 (it_list ha)⟩
          · cases e1
        · cases e1
      · cases hh
    · rename_i hh; split at hh <;> cases hh
    · exact h.elim
/-- a tuple's items, a text's signs: they stay as they are -/
def fixGet (xs : List D) : Nat → Sto → Option (Option D) := fun i _ => some xs[i]?
def itT (d : D) (_ : Sto) : Option MIt := match d with
  | .tup xs => some ⟨fixGet xs, xs.length + 1⟩
  | _ => none
def miT (m : MEx) : MIx := fun ρ S => (m ρ S).it itT
/-- the common part: an expression, then its iterator -/
theorem it_core {K : PySem.W.Frag} {α : Type} {β : Type} {R : Hp → List Addr → α → β → Prop} {m : Rho → Sto → Res α} {f : α → Sto → Option MIt} {φ : List Addr} {ρ : Rho} {S : Sto} {σ : St} {H : Hp} {RR : It → Hp → Prop} {Q1 : β → Hp → Prop}
    (h : match (m ρ S).it f with
      | .ok it S' => ∀ φ' J H', Ext φ H φ' H' → Emb K G φ' S' H' → ItOk K G it J φ' H' → RR J H'
      | .exc e S' => ∀ φ' H', Ext φ H φ' H' → Emb K G φ' S' H' → XW K G W e φ' σ H'
      | .stuck => False)
    (kk : ∀ a S1 φ1 b H1 it, Ext φ H φ1 H1 → Emb K G φ1 S1 H1 → R H1 φ1 a b → f a S1 = some it → (∀ J, ItOk K G it J φ1 H1 → RR J H1) → Q1 b H1) : outR K G W R (m ρ S) φ σ H Q1 := by
  unfold Res.it at h
  cases q : m ρ S with
  | stuck => rw [q] at h; exact h
  | exc e S' => rw [q] at h; exact h
  | ok d S1 =>
    rw [q] at h
    intro φ1 v H1 x1 em1 rv
    simp only [Res.bind_ok] at h
    cases hf : f d S1 with
    | none => simp only [hf] at h
    | some it =>
      simp only [hf] at h
      exact kk d S1 φ1 v H1 it x1 em1 rv hf fun J hJ => h φ1 J H1 x1 em1 hJ
theorem i_tup {tg e : Expr} {m : MEx} (he : PE X e (wpE X.K G W m)) : PI X tg e (wpI X.K G W (miT m)) := by
  refine pi_conv (pi_tup he) ?_
  rintro σ H R ⟨φ, ρ, S, em, rs, h⟩
  refine ⟨φ, ρ, S, em, rs, it_core h fun d S1 φ1 v H1 it x1 em1 rv hf hR => ?_⟩
  unfold itT at hf
  split at hf
  · rename_i xs
    cases hf
    cases rv with
    | @tup _ vs a s q =>
      refine ⟨_, rfl, ⟨_, s⟩, hR _ ?_⟩
      intro i φ' S' H' x em'
      show match fixGet xs i S' with | none => True | some none => _ | some (some d) => _
      unfold fixGet
      have s' := x.2.sqt s
      have q' := RVs.ext x q
      cases e : xs[i]? with
      | none => exact ⟨vs, s', by rw [← RVs.length q']; exact List.getElem?_eq_none_iff.mp e⟩
      | some d =>
        obtain ⟨w, ew, r⟩ := RVs.get q' e
        refine ⟨⟨vs, w, s', ew⟩, ?_⟩
        rintro y H'' ⟨rfl, hy⟩
        have := hy vs s'
        rw [ew] at this
        cases this
        exact ⟨.refl, em', r⟩
  · cases hf
def signs (z : Str) : List D := z.cps.toList.map fun c => .str ⟨#[c]⟩
def itS (d : D) (_ : Sto) : Option MIt := match d with
  | .str z => some ⟨fixGet (signs z), z.length + 1⟩
  | _ => none
def miS (m : MEx) : MIx := fun ρ S => (m ρ S).it itS
theorem i_str {tg e : Expr} {m : MEx} (he : PE X e (wpE X.K G W m)) : PI X tg e (wpI X.K G W (miS m)) := by
  refine pi_conv (pi_str he) ?_
  rintro σ H R ⟨φ, ρ, S, em, rs, h⟩
  refine ⟨φ, ρ, S, em, rs, it_core h fun d S1 φ1 v H1 it x1 em1 rv hf hR => ?_⟩
  unfold itS at hf
  split at hf
  · rename_i z
    cases hf
    cases rv
    refine ⟨z, rfl, hR _ ?_⟩
    intro i φ' S' H' x em'
    show match fixGet (signs z) i S' with | none => True | some none => _ | some (some d) => _
    unfold fixGet signs
    have e0 : z.cps.toList[i]? = z.cps[i]? := by simp
    rw [List.getElem?_map, e0]
    cases e : z.cps[i]? with
    | none => exact Array.getElem?_eq_none_iff.mp e
    | some c =>
      refine ⟨(Array.getElem?_eq_some_iff.mp e).1, ?_⟩
      rintro y H'' ⟨rfl, c', e', rfl⟩
      rw [e] at e'
      cases e'
      exact ⟨.refl, em', .str⟩
  · cases hf
def rngGet (lo : Int) (n : Nat) : Nat → Sto → Option (Option D) := fun i _ => some (if i < n then some (.int (lo + i)) else none)
theorem it_rng {K : PySem.W.Frag} {lo : Int} {n m : Nat} {φ0 : List Addr} {H0 : Hp} : ItOk K G ⟨rngGet lo n, m⟩ (Itr lo n) φ0 H0 := by
  intro i φ S H x em
  show match rngGet lo n i S with | none => True | some none => _ | some (some d) => _
  unfold rngGet
  by_cases h : i < n
  · rw [if_pos h]
    refine ⟨h, ?_⟩
    rintro y H' ⟨rfl, rfl⟩
    exact ⟨.refl, em, .int⟩
  · rw [if_neg h]
    exact Nat.le_of_not_lt h
def itR1 (ds : List D) (_ : Sto) : Option MIt := match ds with
  | [.int j] => if -(2 ^ 62) ≤ j ∧ j < 2 ^ 62 then some ⟨rngGet 0 j.toNat, j.toNat + 1⟩ else none
  | _ => none
def itR2 (ds : List D) (_ : Sto) : Option MIt := match ds with
  | [.int i, .int j] => if -(2 ^ 62) ≤ i ∧ i < 2 ^ 62 ∧ -(2 ^ 62) ≤ j ∧ j < 2 ^ 62 then some ⟨rngGet i (j - i).toNat, (j - i).toNat + 1⟩ else none
  | _ => none
def miR1 (ms : MAr) : MIx := fun ρ S => (ms ρ S).it itR1
def miR2 (ms : MAr) : MIx := fun ρ S => (ms ρ S).it itR2
theorem i_rng1 {tg a : Expr} {ms : MAr} {p pos : Pos} (hm : X.mg "range" = none) (ha : PA X [a] (wpA X.K G W ms)) (hg : Gl X "range" := by rfl) (hs : starEach [a] X.env = [(false, eval a X.env)] := by rfl) : PI X tg (.Call (.Name "range" p) [a] [] pos) (wpI X.K G W (miR1 ms)) := by
  refine pi_conv (pi_range1 hg hm ha hs) ?_
  rintro σ H R ⟨φ, ρ, S, em, rs, h⟩
  refine ⟨φ, ρ, S, em, rs, it_core h fun d S1 φ1 v H1 it x1 em1 rv hf hR => ?_⟩
  unfold itR1 at hf
  split at hf
  · split at hf
    · rename_i j hj
      cases hf
      cases (show RVs X.K H1 φ1 _ v from rv) with
      | cons a b => cases a; cases b; exact ⟨j, rfl, hj.1, hj.2, hR _ it_rng⟩
    · cases hf
  · cases hf
theorem i_rng2 {tg a b : Expr} {ms : MAr} {p pos : Pos} (hm : X.mg "range" = none) (ha : PA X [a, b] (wpA X.K G W ms)) (hg : Gl X "range" := by rfl) (hs : starEach [a, b] X.env = [(false, eval a X.env), (false, eval b X.env)] := by rfl) (hs2 : starEach [b] X.env = [(false, eval b X.env)] := by rfl) :
    PI X tg (.Call (.Name "range" p) [a, b] [] pos) (wpI X.K G W (miR2 ms)) := by
  refine pi_conv (pi_range2 hg hm ha hs hs2) ?_
  rintro σ H R ⟨φ, ρ, S, em, rs, h⟩
  refine ⟨φ, ρ, S, em, rs, it_core h fun d S1 φ1 v H1 it x1 em1 rv hf hR => ?_⟩
  unfold itR2 at hf
  split at hf
  · split at hf
    · rename_i i j hj
      cases hf
      cases (show RVs X.K H1 φ1 _ v from rv) with
      | cons a b => cases a; cases b with
        | cons a b => cases a; cases b; exact ⟨i, j, rfl, hj, hR _ it_rng⟩
    · cases hf
  · cases hf
/-- enumerate(list) -/
def enGet (l : Nat) : Nat → Sto → Option (Option D) := fun i S => match S[l]? with
  | some (.lst _ xs) => some (xs[i]?.map fun d => .tup [.int (i : Nat), d])
  | _ => none
def itEn (ds : List D) (S : Sto) : Option MIt := match ds with
  | [.loc l] => match S[l]? with
    | some (.lst _ xs) => some ⟨enGet l, xs.length + 1⟩
    | _ => none
  | _ => none
def miEn (ms : MAr) : MIx := fun ρ S => (ms ρ S).it itEn
theorem i_enum {e : Expr} {elts : List Expr} {kk : Nat} {ms : MAr} {p pos tpos : Pos} (hm : X.mg "enumerate" = none) (ha : PA X [e] (wpA X.K G W ms)) (hg : Gl X "enumerate" := by rfl) (hs : starEach [e] X.env = [(false, eval e X.env)] := by rfl) :
    PI X (.Tuple elts kk tpos) (.Call (.Name "enumerate" p) [e] [] pos) (wpI X.K G W (miEn ms)) := by
  refine pi_conv (pi_enum hg hm ha hs) ?_
  rintro σ H R ⟨φ, ρ, S, em, rs, h⟩
  refine ⟨φ, ρ, S, em, rs, it_core h fun d S1 φ1 v H1 it x1 em1 rv hf hR => ?_⟩
  unfold itEn at hf
  split at hf
  · rename_i l
    split at hf
    · rename_i fz xs es
      cases hf
      cases (show RVs X.K H1 φ1 _ v from rv) with
      | cons r b =>
        cases b
        obtain ⟨a, rfl, ha, ro⟩ := em1.at_loc es r
        obtain ⟨vs, sq, rvs⟩ := ro.sql
        refine ⟨a, vs, rfl, sq, hR _ ?_⟩
        intro i φ' S' H' x em'
        show match enGet l i S' with | none => True | some none => _ | some (some d) => _
        unfold enGet
        have ha' := pre_get x.1 ha
        cases es' : S'[l]? with
        | none => trivial
        | some o =>
          cases o with
          | lst fz' ys =>
            obtain ⟨ws, sq', rvs'⟩ := (em'.ob l _ a es' ha').sql
            cases e : ys[i]? with
            | none => simp only [e, Option.map_none]; exact ⟨ws, sq', by rw [← RVs.length rvs']; exact List.getElem?_eq_none_iff.mp e⟩
            | some d =>
              simp only [e, Option.map_some]
              obtain ⟨w, ew, r'⟩ := RVs.get rvs' e
              refine ⟨⟨ws, w, sq', ew⟩, ?_⟩
              rintro y H'' ⟨T, x0, rfl, hT, rfl, hy⟩
              have := hy ws sq'
              rw [ew] at this
              cases this
              exact ⟨.other hT, em'.other hT, .tup (.of upd_same) (.cons .int (.cons (RV.ext (.other hT) r') .nil))⟩
          | dct _ _ => trivial
          | ins _ _ => trivial
    · cases hf
  · cases hf
/-! ### comprehensions -/
def lcGo (it : MIt) (t : Tg) (tt : MTs) (me : MEx) (ρ : Rho) (L : Nat) : Nat → Nat → Sto → Res D
  | 0, _, _ => .stuck
  | n + 1, i, S => match it.get i S with
    | none => .stuck
    | some none => .ok (.loc L) S
    | some (some d) => match tgM t d ρ S with
      | none => .stuck
      | some ρ1 => (noX (tt ρ1 S)).bind fun b S2 => if b = true then
          (noX (me ρ1 S2)).bind fun y S3 => match S3[L]? with
            | some (.lst false acc) => if acc.length < sizeLine then lcGo it t tt me ρ L n (i + 1) (S3.set L (.lst false (acc ++ [y]))) else .stuck
            | _ => .stuck
        else lcGo it t tt me ρ L n (i + 1) S2
def mLc (mi : MIx) (t : Tg) (tt : MTs) (me : MEx) (own : List Nat) : MEx := fun ρ S => (mi ρ S).bind fun it S1 => lcGo it t tt me (clr own ρ) S1.length it.fuel 0 (S1 ++ [.lst false []])
def tYesM : MTs := fun _ S => .ok true S
end
end MP

set_option Elab.async false
set_option linter.all false
set_option maxRecDepth 100000
set_option maxHeartbeats 2000000
namespace MP
open PySem L2
section
variable {X : Cx} {G : Ga} {W : WX} {k : Nat}
theorem wipe_get (σ : St) (j : Nat) : ∀ vs : List Nat, (wipe σ vs)[j]? = if j ∈ vs then σ[j]?.map (fun _ => (none : Option V)) else σ[j]?
  | [] => by simp [wipe]
  | v :: vs => by
    show ((wipe σ vs).set v none)[j]? = _
    have ih := wipe_get σ j vs
    by_cases hj : v = j
    · subst hj
      by_cases hl : v < σ.length
      · rw [List.getElem?_set_self (by rw [wipe_length]; exact hl), if_pos (by simp), List.getElem?_eq_getElem hl]
        rfl
      · rw [List.getElem?_eq_none (by simp [wipe_length]; omega), if_pos (by simp), List.getElem?_eq_none (by omega)]
        rfl
    · rw [List.getElem?_set_ne hj, ih]
      have hj' : ¬ j = v := fun e => hj e.symm
      simp only [List.mem_cons, hj', false_or]
theorem wipe_set {σ : St} {vs : List Nat} {i : Nat} {o : Option V} (h : i ∈ vs) : wipe ((wipe σ vs).set i o) vs = wipe σ vs := by
  apply List.ext_getElem?
  intro j
  rw [wipe_get, wipe_get, List.getElem?_set, wipe_get, wipe_length]
  by_cases hj : j ∈ vs
  · by_cases hi : i = j
    · subst hi
      by_cases hl : i < σ.length
      · simp [h, hl]
      · simp [h, hl, List.getElem?_eq_none (Nat.le_of_not_lt hl)]
    · simp [hj, hi, Option.map_map, Function.comp_def]
  · have hi : ¬ i = j := fun e => hj (e ▸ h)
    simp [hj, hi]
theorem wipe_idem {σ : St} {vs : List Nat} : wipe (wipe σ vs) vs = wipe σ vs := by
  apply List.ext_getElem?
  intro j
  rw [wipe_get, wipe_get]
  by_cases hj : j ∈ vs <;> simp [hj, Option.map_map, Function.comp_def]
theorem wipe_over {τ : St} {vs : List Nat} {i : Nat} {o : Option V} (h : i ∈ vs) : wipe (τ.set i o) vs = wipe τ vs := by
  apply List.ext_getElem?
  intro j
  rw [wipe_get, wipe_get, List.getElem?_set]
  by_cases hi : i = j
  · subst hi
    by_cases hl : i < τ.length
    · simp [h, hl]
    · simp [h, hl, List.getElem?_eq_none (Nat.le_of_not_lt hl)]
  · simp [hi]
theorem wipe_setAll {vs : List Nat} {σ : St} : ∀ {is : List Nat} {xs : List V} {τ : St}, (∀ i ∈ is, i ∈ vs) → wipe τ vs = wipe σ vs → wipe (setAll τ is xs) vs = wipe σ vs
  | [], [], _, _, e => e
  | [], _ :: _, _, _, e => e
  | _ :: _, [], _, _, e => e
  | i :: is, x :: xs, τ, h, e => by
    show wipe (setAll (τ.set i (some x)) is xs) vs = wipe σ vs
    exact wipe_setAll (fun j hj => h j (by simp [hj])) ((wipe_over (h i (by simp))).trans e)
theorem rs_wipe {K : PySem.W.Frag} {φ : List Addr} {ρ : Rho} {σ : St} {H : Hp} (h : RS K φ ρ σ H) (vs : List Nat) : RS K φ (clr vs ρ) (L2.wipe σ vs) H := by
  induction vs with
  | nil => exact h
  | cons i vs ih =>
    show RS K φ ((clr vs ρ).set i none) ((L2.wipe σ vs).set i none) H
    refine ⟨by simp [ih.len], fun j d e => ?_⟩
    by_cases hj : i = j
    · subst hj
      rw [List.getElem?_set] at e
      simp at e
    · rw [List.getElem?_set_ne hj] at e ⊢
      exact ih.at_ j d e
def Tg.ins : Tg → List Nat → Bool
  | .nm i, vs => vs.contains i
  | .tp is, vs => is.all fun i => vs.contains i
theorem tg_wipe {K : PySem.W.Frag} {t : Tg} {vs : List Nat} (ht : t.ins vs = true) {v : V} {σ : St} {H : Hp} {Q : St → Hp → Prop} (h : gTg K t v (wipe σ vs) H Q) : gTg K t v (wipe σ vs) H (fun σ' H' => wipe σ' vs = wipe σ vs ∧ Q σ' H') := by
  cases t with
  | nm i =>
    have hi : i ∈ vs := by simpa [Tg.ins] using ht
    exact ⟨wipe_set hi, h⟩
  | tp is =>
    obtain ⟨a, xs, e, hs, hl, q⟩ := h
    have hi : ∀ i ∈ is, i ∈ vs := by simpa [Tg.ins] using ht
    exact ⟨a, xs, e, hs, hl, wipe_setAll hi wipe_idem, q⟩
theorem out_noXb {K : PySem.W.Frag} {α β γ δ : Type} {R : Hp → List Addr → α → β → Prop} {R' : Hp → List Addr → γ → δ → Prop} {r : Res α} {f : α → Sto → Res γ} {φ : List Addr} {σ σ' : St} {H : Hp} {Q : δ → Hp → Prop} {Q1 : β → Hp → Prop} (h : outR K G W R' ((noX r).bind f) φ σ H Q)
    (kk : ∀ a S1 φ1 b H1, Ext φ H φ1 H1 → Emb K G φ1 S1 H1 → R H1 φ1 a b → outR K G W R' (f a S1) φ1 σ H1 Q → Q1 b H1) : outR K G W0 R r φ σ' H Q1 := by
  cases r with
  | ok a S => exact fun φ1 b H1 x em rv => kk a S φ1 b H1 x em rv (outR.from x h)
  | exc e S => exact h.elim
  | stuck => exact h
/-- the append to the list at L -/
theorem app_step {K : PySem.W.Frag} {φ : List Addr} {S : Sto} {H : Hp} {L : Nat} {p : Addr} {acc : List D} {y : D} {v : V} (em : Emb K G φ S H) (hp : φ[L]? = some p) (hS : S[L]? = some (.lst false acc)) (rv : RV K H φ y v) :
    ∃ vs, H p = some (.lst vs) ∧ vs.length = acc.length ∧ Ext φ H φ (upd H p (.lst (vs ++ [v]))) ∧ Emb K G φ (S.set L (.lst false (acc ++ [y]))) (upd H p (.lst (vs ++ [v]))) := by
  obtain ⟨vs, e1, rvs⟩ := (em.ob L _ p hS hp).lstM
  have n1 : ∀ xs, HO.lst vs ≠ .tup xs := fun _ z => nomatch z
  have n2 : ∀ ob w, HO.lst vs ≠ .frz ob w := fun _ _ z => nomatch z
  have xa : Ext φ H φ (upd H p (.lst (vs ++ [v]))) := .at e1 n1 n2
  exact ⟨vs, e1, (RVs.length rvs).symm, xa, em.set hS hp e1 n1 n2 rfl (.lst upd_same (RVs.ext xa (RVs.append rvs (.cons rv .nil))))⟩
theorem lc_ok {K : PySem.W.Frag} {mi : MIx} {t : Tg} {tt : MTs} {me : MEx} {own : List Nat} {cw : TI} (hcw : ∀ σ H R, wpI K G W mi σ H R → cw σ H R) (ht : t.ins own = true) (σ : St) (H : Hp) (Q : VK) (h : wpE K G W (mLc mi t tt me own) σ H Q) :
    tLc cw (gTg K t) (wpT K G W0 tt) (wpE K G W0 me) own σ H Q := by
  obtain ⟨φ, ρ, S, em, rs, h⟩ := h
  refine hcw σ H _ ⟨φ, ρ, S, em, rs, ?_⟩
  unfold mLc at h
  cases q : mi ρ S with
  | stuck => rw [q] at h; exact h
  | exc e S' => rw [q] at h; exact h
  | ok it S1 =>
    rw [q] at h
    intro φ1 J H1 x1 em1 hJ p hp
    have xn : Ext φ1 H1 (φ1 ++ [p]) (upd H1 p (.lst [])) := .new hp
    have em2 : Emb K G (φ1 ++ [p]) (S1 ++ [.lst false []]) (upd H1 p (.lst [])) := em1.new hp (.lst upd_same .nil)
    have hL : (φ1 ++ [p])[S1.length]? = some p := by rw [← em1.len]; simp
    have rsw : RS K φ1 (clr own ρ) (L2.wipe σ own) H1 := rs_wipe (rs.ext x1) own
    refine ⟨fun i m H => ∃ φ S, Ext (φ1 ++ [p]) (upd H1 p (.lst [])) φ H ∧ Emb K G φ S H ∧ outR K G W (rE K) (lcGo it t tt me (clr own ρ) S1.length m i S) φ σ H Q, ⟨it.fuel, _, _, .refl, em2, outR.from (x1.trans xn) h⟩, ?_⟩
    rintro i m H2 ⟨φ2, S2, x2, em3, h2⟩
    have x12 : Ext φ1 H1 φ2 H2 := xn.trans x2
    have hL2 := pre_get x2.1 hL
    cases m with
    | zero => exact h2.elim
    | succ n =>
      have hj := hJ i φ2 S2 H2 x12 em3
      unfold lcGo at h2
      cases hget : it.get i S2 with
      | none => rw [hget] at h2; exact h2.elim
      | some od =>
        cases od with
        | none => rw [hget] at h2 hj; exact .inl ⟨hj, outR.ok (R := rE K) h2 em3 (.loc hL2)⟩
        | some dv =>
          rw [hget] at h2 hj
          refine .inr ⟨hj.1, fun H' => ∃ φ S, Ext (φ1 ++ [p]) (upd H1 p (.lst [])) φ H' ∧ Emb K G φ S H' ∧ outR K G W (rE K) (lcGo it t tt me (clr own ρ) S1.length n (i + 1) S) φ σ H' Q, fun H' z => ⟨n, Nat.lt_succ_self n, z⟩, fun y H3 hy => ?_⟩
          obtain ⟨x3, em4, rv⟩ := hj.2 y H3 hy
          cases htg : tgM t dv (clr own ρ) S2 with
          | none => simp only [htg] at h2; exact h2.elim
          | some ρ3 =>
            simp only [htg] at h2
            refine tg_wipe ht (tg_ok em4 (rsw.ext (x12.trans x3)) rv htg fun σ3 rs3 => ?_)
            refine ⟨φ2, ρ3, S2, em4, rs3, out_noXb (outR.from x3 h2) fun b S4 φ4 b' H4 x4 em5 rb h4 => ?_⟩
            cases (show b = b' from rb)
            cases b with
            | false => exact ⟨φ4, S4, (x2.trans x3).trans x4, em5, h4⟩
            | true =>
              refine ⟨φ4, ρ3, S4, em5, rs3.ext x4, out_noXb (show outR K G W (rE K) _ φ4 σ H4 Q from h4) fun yd S5 φ5 yv H5 x5 em6 ry h5 => ?_⟩
              have xx : Ext (φ1 ++ [p]) (upd H1 p (.lst [])) φ5 H5 := ((x2.trans x3).trans x4).trans x5
              have hL5 := pre_get xx.1 hL
              split at h5
              · rename_i acc eS
                split at h5
                · rename_i hlt
                  obtain ⟨vs, e1, e2, xa, em7⟩ := app_step em6 hL5 eS ry
                  exact ⟨vs, e1, by rw [e2]; exact hlt, φ5, _, xx.trans xa, em7, outR.from xa h5⟩
                · exact h5.elim
              · exact h5.elim
/-- a block's context -/
theorem DX.blk (d : DX X G W k) (s : Shared) (H : Hp) (scope : Scope) (ce : Env) (fp : List Addr) : DX (X.blk s H scope ce fp) G W0 k :=
  ⟨d.calm, takes0, PassesOwn.never, ⟨d.hr.hd, d.hr.dp, d.hr.un⟩, d.nd⟩
theorem d_lc {elt tg iter : Expr} {ifs : List Expr} {scope : Scope} {own : List (Str × Nat)} {pos : Pos} {mi : MIx} {t : Tg} {tt : MTs} {me : MEx} (d : DX X G W k) (hi : PI X tg iter (wpI X.K G W mi)) (ok : blkC X.N X.env.scope scope own = true)
    (hg : ∀ (s : Shared) (H : Hp) (C : Addr) (cl : List (Str × Addr)) (fp : List Addr), DX (X.blk s H scope (compEnvC scope cl C X.env) fp) G W0 k → PG (X.blk s H scope (compEnvC scope cl C X.env) fp) tg (gTg X.K t))
    (htt : ∀ (s : Shared) (H : Hp) (C : Addr) (cl : List (Str × Addr)) (fp : List Addr), DX (X.blk s H scope (compEnvC scope cl C X.env) fp) G W0 k → PTs (X.blk s H scope (compEnvC scope cl C X.env) fp) ifs (wpT X.K G W0 tt))
    (he : ∀ (s : Shared) (H : Hp) (C : Addr) (cl : List (Str × Addr)) (fp : List Addr), DX (X.blk s H scope (compEnvC scope cl C X.env) fp) G W0 k → PE (X.blk s H scope (compEnvC scope cl C X.env) fp) elt (wpE X.K G W0 me))
    (hin : t.ins (own.map (·.2)) = true := by decide) (hs : ∀ x, foldedSetIterable iter X.env x = pure x := by intro _; rfl) :
    PE X (.ListComp elt [⟨tg, iter, ifs, 0⟩] scope pos) (wpE X.K G W (mLc mi t tt me (own.map (·.2)))) :=
  pe_conv (pe_lc d.calm d.nd hi (blkOk_by ok) (fun s H C cl fp => hg s H C cl fp (d.blk ..)) (fun s H C cl fp => htt s H C cl fp (d.blk ..)) (fun s H C cl fp => he s H C cl fp (d.blk ..)) hs) (lc_ok (fun _ _ _ z => z) hin)
/-- name = [..] -/
theorem s_setLc {i : Nat} {y : Str} {py : Pos} {elt tg iter : Expr} {ifs : List Expr} {scope : Scope} {own : List (Str × Nat)} {pos spos : Pos} {mi : MIx} {t : Tg} {tt : MTs} {me : MEx} (d : DX X G W k) (hi : PI X tg iter (wpI X.K G W mi)) (ok : blkC X.N X.env.scope scope own = true)
    (hsw : swapsWith (.ListComp elt [⟨tg, iter, ifs, 0⟩] scope pos) (some (.Name y py)) spos.line X.env = pure true)
    (hg : ∀ (s : Shared) (H : Hp) (C : Addr) (cl : List (Str × Addr)) (fp : List Addr), DX (X.blk s H scope (compEnvC scope cl C X.env) fp) G W0 k → PG (X.blk s H scope (compEnvC scope cl C X.env) fp) tg (gTg X.K t))
    (htt : ∀ (s : Shared) (H : Hp) (C : Addr) (cl : List (Str × Addr)) (fp : List Addr), DX (X.blk s H scope (compEnvC scope cl C X.env) fp) G W0 k → PTs (X.blk s H scope (compEnvC scope cl C X.env) fp) ifs (wpT X.K G W0 tt))
    (he : ∀ (s : Shared) (H : Hp) (C : Addr) (cl : List (Str × Addr)) (fp : List Addr), DX (X.blk s H scope (compEnvC scope cl C X.env) fp) G W0 k → PE (X.blk s H scope (compEnvC scope cl C X.env) fp) elt (wpE X.K G W0 me))
    (hin : t.ins (own.map (·.2)) = true := by decide) (hy : X.N[i]? = some y := by rfl) (hyl : X.env.scope.names.lookup y = some .local := by rfl) (hs : ∀ x, foldedSetIterable iter X.env x = pure x := by intro _; rfl) :
    PS X (.Assign [.Name y py] (.ListComp elt [⟨tg, iter, ifs, 0⟩] scope pos) spos) (wpS X.K G W (sSet i (mLc mi t tt me (own.map (·.2))))) := by
  refine ps_conv (ps_setLc (i := i) d.calm d.nd hy hyl hsw hi (blkOk_by ok) (fun s H C cl fp => hg s H C cl fp (d.blk ..)) (fun s H C cl fp => htt s H C cl fp (d.blk ..)) (fun s H C cl fp => he s H C cl fp (d.blk ..)) hs) ?_
  rintro D σ H ⟨φ, ρ, S, em, rs, h⟩
  refine lc_ok (W := W) (fun _ _ _ z => z) hin σ H _ ⟨φ, ρ, S, em, rs, outR.st rs h fun v S1 φ1 y H1 x em1 rv h1 => ?_⟩
  exact h1 φ1 _ H1 .refl em1 ((rs.ext x).set i rv)
theorem ts_nil : PTs X [] (wpT X.K G W tYesM) := ⟨fun pins s σ H Q I ⟨φ, ρ, S, em, rs, h⟩ => pts_nil.run pins s σ H Q I (outR.ok (R := rT) h em rfl)⟩
theorem ts_one {c : Expr} {m : MTs} (h : PT X c (wpT X.K G W m)) : PTs X [c] (wpT X.K G W m) := pts_one h
end
end MP

set_option Elab.async false
set_option linter.all false
set_option maxRecDepth 100000
set_option maxHeartbeats 2000000
namespace MP
open PySem L2
section
variable {X : Cx} {G : Ga} {W : WX} {k : Nat}
/-! ### built-in functions by their values -/
def CallS (K : PySem.W.Frag) (G : Ga) (W : WX) (f : List D → Sto → Res D) (r : List V → Hp → VK → Prop) : Prop :=
  ∀ φ S σ H ds vs Q, Emb K G φ S H → RVs K H φ ds vs → outR K G W (rE K) (f ds S) φ σ H Q → r vs H Q
def mCB (f : List D → Sto → Res D) (ms : MAr) : MEx := fun ρ S => (ms ρ S).bind f
theorem cb {K : PySem.W.Frag} {f : List D → Sto → Res D} {r : List V → Hp → VK → Prop} {ms : MAr} (hs : CallS K G W f r) (σ : St) (H : Hp) (Q : VK) (h : wpE K G W (mCB f ms) σ H Q) : tCB r (wpA K G W ms) σ H Q := by
  obtain ⟨φ, ρ, S, em, rs, h⟩ := h
  refine ⟨φ, ρ, S, em, rs, h.bind fun ds S1 φ1 vs H1 x em1 rv h1 => ?_⟩
  exact hs φ1 S1 σ H1 ds vs Q em1 rv h1
theorem d_callB {x : Str} {id : String} {e : Expr} {es : List Expr} {f : List D → Sto → Res D} {r : List V → Hp → VK → Prop} {ms : MAr} {p pos : Pos} (hc : CallR X (.builtin id) r) (hs : CallS X.K G W f r) (hm : X.mg x = none) (ha : PA X (e :: es) (wpA X.K G W ms)) (hv : bootBuiltins x = some (.builtin id) := by decide +kernel) (hg : Gl X x := by rfl)
    (hn : x ≠ "__name__" := by decide) (hdb : (x == ("__debug__" : Str)) = false := by decide)
    (he : starEach (e :: es) X.env = (false, eval e X.env) :: starEach es X.env := by rfl) (hpl : (backTo pos (starEach es X.env)).any (·.1) = false := by rfl) : PE X (.Call (.Name x p) (e :: es) [] pos) (wpE X.K G W (mCB f ms)) :=
  pe_conv (pe_callB hc hg hm hv ha hn hdb he hpl) (cb hs)
theorem d_callT {x : Str} {T : String} {e : Expr} {es : List Expr} {f : List D → Sto → Res D} {r : List V → Hp → VK → Prop} {ms : MAr} {p pos : Pos} (hc : CallR X (.type T) r) (hs : CallS X.K G W f r) (hm : X.mg x = none) (ha : PA X (e :: es) (wpA X.K G W ms)) (hv : bootBuiltins x = some (.type T) := by decide +kernel) (hg : Gl X x := by rfl)
    (hn : x ≠ "__name__" := by decide) (hdb : (x == ("__debug__" : Str)) = false := by decide)
    (he : starEach (e :: es) X.env = (false, eval e X.env) :: starEach es X.env := by rfl) (hpl : (backTo pos (starEach es X.env)).any (·.1) = false := by rfl) : PE X (.Call (.Name x p) (e :: es) [] pos) (wpE X.K G W (mCB f ms)) :=
  pe_conv (pe_callTy hc hg hm hv ha hn hdb he hpl) (cb hs)
def cLen (ds : List D) (S : Sto) : Res D := match ds with
  | [.tup xs] => .ok (.int xs.length) S
  | [.str z] => if z.length ≤ sizeLine then .ok (.int z.length) S else .stuck
  | [.loc l] => match S[l]? with
    | some (.lst _ xs) => .ok (.int xs.length) S
    | some (.dct false kvs) => .ok (.int kvs.length) S
    | _ => .stuck
  | _ => .stuck
def rLenU (K : PySem.W.Frag) : List V → Hp → VK → Prop := fun xs H Q => (∃ p ys, xs = [.ref p] ∧ (SqL K H p ys ∨ SqT K H p ys) ∧ Q (.int ys.length) H) ∨ (∃ z, xs = [.str z] ∧ z.length ≤ sizeLine ∧ Q (.int z.length) H) ∨ (∃ a kvs, xs = [V.ref a] ∧ H a = some (.dK kvs) ∧ Q (.int kvs.length) H)
theorem cr_lenU : CallR X (.builtin "len") (rLenU X.K) := call_len_seq.or (call_len_str.or call_lenD)
theorem s_len {K : PySem.W.Frag} : CallS K G W cLen (rLenU K) := by
  intro φ S σ H ds vs Q em r h
  unfold cLen at h
  split at h
  · cases r with
    | cons a b =>
      cases b
      cases a with
      | tup s q => exact .inl ⟨_, _, rfl, .inr s, by rw [← RVs.length q]; exact outR.ok (R := rE K) h em .int⟩
  · split at h
    · rename_i hl
      cases r with
      | cons a b => cases b; cases a; exact .inr (.inl ⟨_, rfl, hl, outR.ok (R := rE K) h em .int⟩)
    · exact h.elim
  · cases r with
    | cons a b =>
      cases b
      split at h
      · rename_i fz xs es
        obtain ⟨p, rfl, _, ro⟩ := em.at_loc es a
        obtain ⟨ws, sq, rv⟩ := ro.sql
        exact .inl ⟨p, ws, rfl, .inl sq, by rw [← RVs.length rv]; exact outR.ok (R := rE K) h em .int⟩
      · rename_i kvs es
        obtain ⟨p, rfl, _, ro⟩ := em.at_loc es a
        cases ro with
        | dct e1 rk => exact .inr (.inr ⟨p, _, rfl, e1, by rw [← rk.length]; exact outR.ok (R := rE K) h em .int⟩)
      · exact h.elim
  · exact h.elim
def cAbs (ds : List D) (S : Sto) : Res D := match ds with
  | [.int i] => .ok (.int (if i < 0 then -i else i)) S
  | _ => .stuck
theorem s_abs {K : PySem.W.Frag} : CallS K G W cAbs (fun xs H Q => ∃ i, xs = [.int i] ∧ Q (.int (if i < 0 then -i else i)) H) := by
  intro φ S σ H ds vs Q em r h
  unfold cAbs at h
  split at h
  · cases r with
    | cons a b => cases b; cases a; exact ⟨_, rfl, outR.ok (R := rE K) h em .int⟩
  · exact h.elim
def cMin (ds : List D) (S : Sto) : Res D := match ds with
  | [.int i, .int j] => .ok (.int (if j < i then j else i)) S
  | _ => .stuck
def cMax (ds : List D) (S : Sto) : Res D := match ds with
  | [.int i, .int j] => .ok (.int (if j > i then j else i)) S
  | _ => .stuck
theorem s_min {K : PySem.W.Frag} : CallS K G W cMin (fun xs H Q => ∃ i j, xs = [.int i, .int j] ∧ Q (.int (if j < i then j else i)) H) := by
  intro φ S σ H ds vs Q em r h
  unfold cMin at h
  split at h
  · cases r with
    | cons a b => cases b with
      | cons a' b => cases b; cases a; cases a'; exact ⟨_, _, rfl, outR.ok (R := rE K) h em .int⟩
  · exact h.elim
theorem s_max {K : PySem.W.Frag} : CallS K G W cMax (fun xs H Q => ∃ i j, xs = [.int i, .int j] ∧ Q (.int (if j > i then j else i)) H) := by
  intro φ S σ H ds vs Q em r h
  unfold cMax at h
  split at h
  · cases r with
    | cons a b => cases b with
      | cons a' b => cases b; cases a; cases a'; exact ⟨_, _, rfl, outR.ok (R := rE K) h em .int⟩
  · exact h.elim
def cInt (ds : List D) (S : Sto) : Res D := match ds with
  | [.int i] => .ok (.int i) S
  | [.bl b] => .ok (.int (if b then 1 else 0)) S
  | _ => .stuck
theorem s_intc {K : PySem.W.Frag} : CallS K G W cInt (fun xs H Q => (∃ i, xs = [.int i] ∧ Q (.int i) H) ∨ ∃ k, xs = [.bl k] ∧ Q (.int (if k then 1 else 0)) H) := by
  intro φ S σ H ds vs Q em r h
  unfold cInt at h
  split at h
  · cases r with
    | cons a b => cases b; cases a; exact .inl ⟨_, rfl, outR.ok (R := rE K) h em .int⟩
  · cases r with
    | cons a b => cases b; cases a; exact .inr ⟨_, rfl, outR.ok (R := rE K) h em .int⟩
  · exact h.elim
def cList (ds : List D) (S : Sto) : Res D := match ds with
  | [d] => match items S d with
    | some xs => newO (.lst false xs) S
    | none => .stuck
  | _ => .stuck
theorem s_list {K : PySem.W.Frag} : CallS K G W cList (fun xs H Q => ∃ p ys, xs = [.ref p] ∧ (SqL K H p ys ∨ SqT K H p ys) ∧ ∀ l, H l = none → Q (.ref l) (upd H l (.lst ys))) := by
  intro φ S σ H ds vs Q em r h
  unfold cList at h
  split at h
  · split at h
    · rename_i xs e
      cases r with
      | cons a b =>
        cases b
        obtain ⟨p, ws, rfl, hs, rv⟩ := items_ok em a e
        exact ⟨p, ws, rfl, hs, fun l hl => h.newL em rv hl⟩
    · exact h.elim
  · exact h.elim
def cTuple (ds : List D) (S : Sto) : Res D := match ds with
  | [d] => match items S d with
    | some xs => .ok (.tup xs) S
    | none => .stuck
  | _ => .stuck
theorem s_tuple {K : PySem.W.Frag} : CallS K G W cTuple (fun xs H Q => ∃ p ys, xs = [.ref p] ∧ ((SqL K H p ys ∧ ∀ l, H l = none → Q (.ref l) (upd H l (.tup ys))) ∨ (SqT K H p ys ∧ Q (.ref p) H))) := by
  intro φ S σ H ds vs Q em r h
  unfold cTuple at h
  split at h
  · split at h
    · rename_i xs e
      cases r with
      | cons a b =>
        cases b
        obtain ⟨p, ws, rfl, hs, rv⟩ := items_ok em a e
        refine ⟨p, ws, rfl, ?_⟩
        rcases hs with hs | hs
        · exact .inl ⟨hs, fun l hl => h φ _ _ (.other hl) (em.other hl) (.tup (.of upd_same) (RVs.ext (.other hl) rv))⟩
        · exact .inr ⟨hs, outR.ok (R := rE K) h em (.tup hs rv)⟩
    · exact h.elim
  · exact h.elim
def cStr (ds : List D) (S : Sto) : Res D := match ds with
  | [.int i] => if i.natAbs.log2 < 1920 then .ok (.str (toString i)) S else .stuck
  | _ => .stuck
theorem s_strc {K : PySem.W.Frag} : CallS K G W cStr (fun xs H Q => ∃ i, xs = [.int i] ∧ i.natAbs.log2 < 1920 ∧ Q (.str (toString i)) H) := by
  intro φ S σ H ds vs Q em r h
  unfold cStr at h
  split at h
  · split at h
    · rename_i hl
      cases r with
      | cons a b => cases b; cases a; exact ⟨_, rfl, hl, outR.ok (R := rE K) h em .str⟩
    · exact h.elim
  · exact h.elim
/-! ### isinstance -/
def D.ty (d : D) (S : Sto) : Option String := match d with
  | .non => some "NoneType" | .bl _ => some "bool" | .int _ => some "int" | .str _ => some "str" | .tup _ => some "tuple"
  | .loc l => match S[l]? with
    | some (.lst _ _) => some "list"
    | some (.dct _ _) => some "dict"
    | _ => none
def isT (a b : String) : Bool := a == b || (a == "bool" && b == "int")
theorem ty_ok {K : PySem.W.Frag} {φ : List Addr} {S : Sto} {H : Hp} {d : D} {v : V} {t : String} (em : Emb K G φ S H) (r : RV K H φ d v) (h : d.ty S = some t) : TyX K H v (.type t) := by
  unfold D.ty at h
  split at h
  · cases r; cases h; exact .base .non
  · cases r; cases h; exact .base (.bl _)
  · cases r; cases h; exact .base (.int _)
  · cases r; cases h; exact .base (.str _)
  · cases r with
    | tup s q =>
      cases h
      rcases s with (s | ⟨o, s⟩) | ⟨o, its, n, h1, h2, _⟩
      · exact .base (.tup s)
      · exact .fTuple s
      · exact .kTuple h1 h2
  · split at h
    · rename_i fz xs es
      cases h
      obtain ⟨a, rfl, _, ro⟩ := em.at_loc es r
      cases ro with
      | lst e1 _ => exact .base (.lst e1)
      | lstK e1 _ => obtain ⟨o, its, n, h1, h2, _⟩ := e1; exact .kList h1 h2
      | lstF e1 _ => exact .base (.frz e1)
    · rename_i fz xs es
      cases h
      obtain ⟨a, rfl, _, ro⟩ := em.at_loc es r
      cases ro with
      | dct e1 _ => exact .base (.dK e1)
      | dctF e1 _ => exact .fDict e1
    · cases h
def isiR (T : String) (d : D) (S : Sto) : Res D := match d.ty S with
  | some t => .ok (.bl (isT t T)) S
  | none => .stuck
def mIsi (T : String) (m : MEx) : MEx := fun ρ S => (m ρ S).bind (isiR T)
theorem d_isi (T : String) {x : Str} {e : Expr} {m : MEx} {p p2 pos : Pos} (hmi : X.mg "isinstance" = none) (hm : X.mg x = none) (he : PE X e (wpE X.K G W m)) (hk : ∀ a, a ∈ ["NoneType", "bool", "int", "str", "tuple", "list", "dict"] → kitB a T = some (isT a T) := by decide +kernel)
    (hv : bootBuiltins x = some (.type T) := by decide +kernel) (hgi : Gl X "isinstance" := by rfl) (hg : Gl X x := by rfl) (hn : x ≠ "__name__" := by decide) (hdb : (x == ("__debug__" : Str)) = false := by decide)
    (hs : starEach (e :: [.Name x p2]) X.env = (false, eval e X.env) :: starEach [.Name x p2] X.env := by rfl) (hpl : (backTo pos (starEach [.Name x p2] X.env)).any (·.1) = false := by rfl) : PE X (.Call (.Name "isinstance" p) [e, .Name x p2] [] pos) (wpE X.K G W (mIsi T m)) := by
  refine pe_conv (pe_callB call_isi hgi hmi (by decide +kernel) (pa_cons he (pa_cons (pe_bltn (v := .ty T) hg hm hv rfl hn hdb) pa_nil) hs) (by decide) (by decide) hs hpl) ?_
  rintro σ H Q ⟨φ, ρ, S, em, rs, h⟩
  refine ⟨φ, ρ, S, em, rs, h.bind fun d S1 φ1 v H1 x1 em1 rv h1 => ?_⟩
  unfold isiR at h1
  split at h1
  · rename_i t ht
    have hin : t ∈ ["NoneType", "bool", "int", "str", "tuple", "list", "dict"] := by
      unfold D.ty at ht
      split at ht <;> first | (cases ht; decide) | (split at ht <;> first | (cases ht; decide) | cases ht)
    exact ⟨v, .ty T, .type t, .type T, isT t T, rfl, .ty T, ty_ok em1 rv ht, kit_ty (hk t hin), outR.ok (R := rE X.K) h1 em1 .bl⟩
  · exact h1.elim
/-! ### methods of lists -/
def MetS (K : PySem.W.Frag) (G : Ga) (W : WX) (f : D → List D → Sto → Res D) (r : V → List V → Hp → VK → Prop) : Prop :=
  ∀ φ S σ H d ds v vs Q, Emb K G φ S H → RV K H φ d v → RVs K H φ ds vs → outR K G W (rE K) (f d ds S) φ σ H Q → r v vs H Q
def isL (d : D) (S : Sto) : Bool := match d with
  | .loc l => match S[l]? with
    | some (.lst _ _) => true
    | _ => false
  | _ => false
def mBM (p : D → Sto → Bool) (f : D → List D → Sto → Res D) (mo : MEx) (ms : MAr) : MEx := fun ρ S => (mo ρ S).bind fun d S1 => if p d S1 = true then (ms ρ S1).bind fun ds S2 => f d ds S2 else .stuck
theorem tyL {K : PySem.W.Frag} {φ : List Addr} {S : Sto} {H : Hp} {d : D} {v : V} (em : Emb K G φ S H) (r : RV K H φ d v) (h : isL d S = true) : tyV K "list" v H := by
  unfold isL at h
  split at h
  · split at h
    · rename_i l fz xs es
      obtain ⟨a, rfl, _, ro⟩ := em.at_loc es r
      obtain ⟨vs, sq, _⟩ := ro.sql
      exact .inl ⟨rfl, vs, sq⟩
    · cases h
  · cases h
theorem d_bm {T id : String} {name : Str} {o e : Expr} {es : List Expr} {f : D → List D → Sto → Res D} {r : V → List V → Hp → VK → Prop} {pp : D → Sto → Bool} {mo : MEx} {ms : MAr} {apos cpos : Pos} (pa : PlainAttrs T) (slot : Slot T name id) (hty : typeOf (.builtin id) = pure (.type "method_descriptor")) (hm : MtR X id r) (hs : MetS X.K G W f r)
    (htv : ∀ φ S H d v, Emb X.K G φ S H → RV X.K H φ d v → pp d S = true → tyV X.K T v H) (ho : PE X o (wpE X.K G W mo)) (ha : PA X (e :: es) (wpA X.K G W ms))
    (hbase : attributeBase o name X.env (eval o X.env) = eval o X.env := by rfl)
    (hfew : ((backTo cpos (starEach (e :: es) X.env)).all (fun x => !x.1) && (backToKw cpos (keywordEach [] X.env)).all (fun x => x.1.isSome)
      && decide ((e :: es).length + ([] : List Keyword).length + (if ([] : List Keyword).isEmpty then 0 else 1) < 30)) = true := by rfl)
    (hline : (apos.endLine == cpos.line) = true := by rfl) (hst : starEach (e :: es) X.env = (false, eval e X.env) :: starEach es X.env := by rfl) (hplain : (backTo cpos (starEach es X.env)).any (·.1) = false := by rfl) :
    PE X (.Call (.Attribute o name apos) (e :: es) [] cpos) (wpE X.K G W (mBM pp f mo ms)) := by
  refine pe_conv (pe_bm pa slot hty hm ho ha hbase hfew hline hst hplain) ?_
  rintro σ H Q ⟨φ, ρ, S, em, rs, h⟩
  refine ⟨φ, ρ, S, em, rs, h.bind fun d S1 φ1 v H1 x1 em1 rv h1 => ?_⟩
  split at h1
  · rename_i hp
    refine ⟨htv _ _ _ _ _ em1 rv hp, φ1, ρ, S1, em1, rs.ext x1, h1.bind fun ds S2 φ2 vs H2 x2 em2 rvs h2 => ?_⟩
    exact hs φ2 S2 σ H2 d ds v vs Q em2 (RV.ext x2 rv) rvs h2
  · exact h1.elim
/-- a list is rewritten -/
theorem lst_write {K : PySem.W.Frag} {φ : List Addr} {S : Sto} {H : Hp} {l : Nat} {a : Addr} {xs ys : List D} {vs ws : List V} (em : Emb K G φ S H) (es : S[l]? = some (.lst false xs)) (ha : φ[l]? = some a) (e1 : H a = some (.lst vs)) (rv : RVs K H φ ys ws) :
    Ext φ H φ (upd H a (.lst ws)) ∧ Emb K G φ (S.set l (.lst false ys)) (upd H a (.lst ws)) := by
  have n1 : ∀ xs, HO.lst vs ≠ .tup xs := fun _ z => nomatch z
  have n2 : ∀ ob w, HO.lst vs ≠ .frz ob w := fun _ _ z => nomatch z
  have xa : Ext φ H φ (upd H a (.lst ws)) := .at e1 n1 n2
  exact ⟨xa, em.set es ha e1 n1 n2 rfl (.lst upd_same (RVs.ext xa rv))⟩
def lAppend (d : D) (ds : List D) (S : Sto) : Res D := match d, ds with
  | .loc l, [y] => match S[l]? with
    | some (.lst false xs) => if xs.length < sizeLine then .ok .non (S.set l (.lst false (xs ++ [y]))) else .stuck
    | _ => .stuck
  | _, _ => .stuck
theorem s_append {K : PySem.W.Frag} : MetS K G W lAppend rAppend := by
  intro φ S σ H d ds v vs Q em r rs h
  unfold lAppend at h
  split at h
  · split at h
    · rename_i l y xs es
      split at h
      · rename_i hl
        cases rs with
        | @cons _ yv _ _ ry rn =>
          cases rn
          obtain ⟨a, rfl, ha, ro⟩ := em.at_loc es r
          obtain ⟨ws, e1, rv⟩ := ro.lstM
          obtain ⟨xa, em2⟩ := lst_write em es ha e1 (RVs.append rv (.cons ry .nil))
          exact ⟨a, ws, yv, rfl, rfl, e1, by rw [← RVs.length rv]; exact hl, h φ .non _ xa em2 .non⟩
      · exact h.elim
    · exact h.elim
  · exact h.elim
/-- extend, the other list a tracked one -/
def lExtend (d : D) (ds : List D) (S : Sto) : Res D := match d, ds with
  | .loc l, [.loc m] => match S[l]?, S[m]? with
    | some (.lst false xs), some (.lst false ys) => if xs.length + ys.length ≤ sizeLine then .ok .non (S.set l (.lst false (xs ++ ys))) else .stuck
    | _, _ => .stuck
  | _, _ => .stuck
theorem s_extend {K : PySem.W.Frag} : MetS K G W lExtend rExtend := by
  intro φ S σ H d ds v vs Q em r rs h
  unfold lExtend at h
  split at h
  · split at h
    · rename_i l m xs ys es es2
      split at h
      · rename_i hl
        cases rs with
        | @cons _ yv _ _ ry rn =>
          cases rn
          obtain ⟨a, rfl, ha, ro⟩ := em.at_loc es r
          obtain ⟨b, rfl, hb, ro2⟩ := em.at_loc es2 ry
          obtain ⟨ws, e1, rv⟩ := ro.lstM
          obtain ⟨zs, e2, rv2⟩ := ro2.lstM
          obtain ⟨xa, em2⟩ := lst_write em es ha e1 (RVs.append rv rv2)
          exact ⟨a, b, ws, zs, rfl, rfl, e1, e2, by rw [← RVs.length rv, ← RVs.length rv2]; exact hl, h φ .non _ xa em2 .non⟩
      · exact h.elim
    · exact h.elim
  · exact h.elim
theorem RVs.erase {K : PySem.W.Frag} {H : Hp} {φ : List Addr} : ∀ {ds : List D} {vs : List V} (i : Nat), RVs K H φ ds vs → RVs K H φ (ds.eraseIdx i) (vs.eraseIdx i)
  | _, _, _, .nil => .nil
  | _, _, 0, .cons _ b => b
  | _, _, i + 1, .cons a b => .cons a (RVs.erase i b)
def lPopAt (d : D) (ds : List D) (S : Sto) : Res D := match d, ds with
  | .loc l, [.int i] => match S[l]? with
    | some (.lst false xs) => if -(2 ^ 63) ≤ i ∧ i < 2 ^ 63 then match seqIndex? i xs.length with
      | some j => match xs[j]? with
        | some y => .ok y (S.set l (.lst false (xs.eraseIdx j)))
        | none => .stuck
      | none => .stuck
      else .stuck
    | _ => .stuck
  | _, _ => .stuck
theorem s_popAt {K : PySem.W.Frag} : MetS K G W lPopAt rPopAt := by
  intro φ S σ H d ds v vs Q em r rs h
  unfold lPopAt at h
  split at h
  · split at h
    · rename_i l i xs es
      split at h
      · rename_i hi
        split at h
        · rename_i j hj
          split at h
          · rename_i y hy
            cases rs with
            | cons ry rn =>
              cases rn
              cases ry
              obtain ⟨a, rfl, ha, ro⟩ := em.at_loc es r
              obtain ⟨ws, e1, rv⟩ := ro.lstM
              obtain ⟨w, ew, rw'⟩ := RVs.get rv hy
              obtain ⟨xa, em2⟩ := lst_write em es ha e1 (RVs.erase j rv)
              exact ⟨a, ws, _, j, w, rfl, rfl, e1, hi.1, hi.2, by rw [← RVs.length rv]; exact hj, ew, h φ w _ xa em2 (RV.ext xa rw')⟩
          · exact h.elim
        · exact h.elim
      · exact h.elim
    · exact h.elim
  · exact h.elim
end
/-! ### the end of a law -/
def scriptS (ns : List Int) : Sto := [.lst true (ns.map .int)]
theorem sp_law {K : PySem.W.Frag} {G : Ga} {mf : MFn} {H : Hp} {a : Addr} {ns : List Int} (hO : Only H) (hS : SqL K H a (ns.map V.int)) (h : ∃ S', mf [.loc 0] (scriptS ns) = .ok (.bl true) S') : SpM K G mf 1 [.ref a] H (fun v _ => v = .bl true) fun _ _ _ => False := by
  obtain ⟨S', e⟩ := h
  have ro : RO K G H [a] (.lst true (ns.map .int)) a := by
    rcases hS with (hS | ⟨o, hS⟩) | hS
    · rcases hO a with z | ⟨o, xs, z⟩
      · rw [z] at hS; cases hS
      · rw [z] at hS; cases hS
    · exact .lstF hS RVs.ints
    · exact .lstK hS RVs.ints
  refine ⟨[a], scriptS ns, [.loc 0], ⟨rfl, fun l l' b e1 e2 => ?_, fun l o b e1 e2 => ?_⟩, .cons (.loc rfl) .nil, rfl, ?_⟩
  · cases l with
    | zero => cases l' with
      | zero => exact .inl rfl
      | succ l' => simp at e2
    | succ l => simp at e1
  · cases l with
    | zero =>
      simp [scriptS] at e1 e2
      subst e1 e2
      exact ro
    | succ l => simp at e2
  · rw [e]
    intro φ' v H' _ _ rv
    cases rv
    rfl
end MP

set_option Elab.async false
set_option linter.all false
set_option maxRecDepth 100000
set_option maxHeartbeats 4000000
namespace MP
open PySem L2
section
variable {X : Cx} {G : Ga} {W : WX} {k : Nat}
/-! ### a def that is read off its class by the class's name -/
structure FnU (P : Program) (w : World) (K : PySem.W.Frag) (mg : Str → Option Value) (base : Heap) (G : Ga) (k : Nat) (c : Cl) (m : Str) (mf : MFn) (n : Nat) : Prop where
  ex : ∃ f fd ps, FnOk P w K mg base (L2.CX P w) k f fd ps (SpM K G mf n) ∧ ClX.CRead K (G.cl c) (.type "type") ∧ PySem.W.findCls K (.ref (G.cl c)) (.type "type") m = some (.val (.ref f)) ∧ mg c.nm = some (.ref (G.cl c)) ∧ PySem.W.keepIn K (.ref f) = true ∧ Binds K fd ps []
def tUCall (C : Addr) (sp : Sp) (E : St → XK) (ta : TE) (t : TA) : TE := fun σ H Q => ta σ H fun x H1 => x = .ref C ∧ t σ H1 fun vs H2 => sp vs H2 Q (E σ)
theorem pe_ucall {CX : CXT} {C f : Addr} {fd : FuncData} {ps : List Str} {sp : Sp} {E : St → XK} {m : Str} {o e : Expr} {es : List Expr} {ta : TE} {t : TA} {apos pos : Pos} {pl : Sem Bool} (he : PE X o ta) (r : ClX.CRead X.K C (.type "type")) (c : PySem.W.findCls X.K (.ref C) (.type "type") m = some (.val (.ref f)))
    (F : FnOk X.prog X.w X.K X.mg X.base CX k f fd ps sp) (hr : Room k X.A) (hk : PySem.W.keepIn X.K (.ref f) = true) (hb : Binds X.K fd ps []) (hx : ∀ σ, PassesAt CX X σ (E σ)) (ha : PA X (e :: es) t)
    (hst : starEach (e :: es) X.env = (false, eval e X.env) :: starEach es X.env := by rfl) (hpl : (backTo pos (starEach es X.env)).any (·.1) = false := by rfl)
    (ht : eval (.Call (.Attribute o m apos) (e :: es) [] pos) X.env = (do
      let ov ← eval o X.env
      standAt apos.atName
      let (f, first) ← holding [ov] (getMethod ov m pl)
      callWith pos f first (backTo pos (starEach (e :: es) X.env)) (backToKw pos (keywordEach [] X.env))) := by rfl) :
    PE X (.Call (.Attribute o m apos) (e :: es) [] pos) (tUCall C sp E ta t) := by
  refine ⟨fun pins s σ H Q I h => ?_⟩
  refine PySem.W.methodCall_KW (pl := pl) (thn (he.run pins s σ H _ I h) fun u s1 ⟨x, H1, I1, rx, ex, q⟩ => ?_) ht
  subst ex
  obtain rfl : u = Value.ref C := rx
  refine PySem.W.method_cls I1.kIn r.ga (PySem.W.cls_value I1.kIn r.rd c rfl ?_)
  have I2 := I1.tok (s1.toks + 1)
  refine PySem.W.callWith_K (h₀ := X.base) I1.ok.mod.kin hk (thn (ha.run pos pins _ σ H1 _ I2 q) fun us s3 ⟨vs, H2, I3, rv, q2⟩ => ⟨I3.kIn, ?_⟩) hst hpl
  exact run_fnS F hr hb (hx σ) I3 rv q2
theorem d_ucall {c : Cl} {m : Str} {e : Expr} {es : List Expr} {j n : Nat} {mf : MFn} {ms : MAr} {p apos pos : Pos} (F : FnU X.prog X.w X.K X.mg X.base G j c m mf n) (d : DX X G W k) (ha : PA X (e :: es) (wpA X.K G W ms)) (hj : j ≤ k := by decide) (hg : Gl X c.nm := by rfl)
    (hdb : (c.nm == ("__debug__" : Str)) = false := by decide) (hst : starEach (e :: es) X.env = (false, eval e X.env) :: starEach es X.env := by rfl) (hpl : (backTo pos (starEach es X.env)).any (·.1) = false := by rfl)
    (ht : eval (.Call (.Attribute (.Name c.nm p) m apos) (e :: es) [] pos) X.env = (do
      let ov ← eval (.Name c.nm p) X.env
      standAt apos.atName
      let (f, first) ← holding [ov] (getMethod ov m (pure false))
      callWith pos f first (backTo pos (starEach (e :: es) X.env)) (backToKw pos (keywordEach [] X.env))) := by rfl) :
    PE X (.Call (.Attribute (.Name c.nm p) m apos) (e :: es) [] pos) (wpE X.K G W (mCall n mf ms)) := by
  obtain ⟨f, fd, ps, hF, hc, hfi, hm, hk, hb⟩ := F.ex
  refine pe_conv (pe_ucall (pl := pure false) (pe_glob hg hm (v := .ref (G.cl c)) rfl hdb) hc hfi hF (d.hr.mono hj) hk hb (fun σ => passAt d.tk σ) ha hst hpl ht) ?_
  rintro σ H Q ⟨φ, ρ, S, em, rs, h⟩
  refine ⟨rfl, φ, ρ, S, em, rs, h.bind fun ds S1 φ1 vs H1 x em1 rv h1 => ?_⟩
  split at h1
  · rename_i hl
    exact ⟨φ1, S1, ds, em1, rv, hl, h1.resig fun _ _ _ z => z⟩
  · exact h1.elim
/-! ### methods of lists without arguments -/
def Met0 (K : PySem.W.Frag) (G : Ga) (W : WX) (f : D → Sto → Res D) (r : V → List V → Hp → VK → Prop) : Prop :=
  ∀ φ S σ H d v Q, Emb K G φ S H → RV K H φ d v → outR K G W (rE K) (f d S) φ σ H Q → r v [] H Q
def mBM0 (p : D → Sto → Bool) (f : D → Sto → Res D) (mo : MEx) : MEx := fun ρ S => (mo ρ S).bind fun d S1 => if p d S1 = true then f d S1 else .stuck
theorem d_bm0 {T id : String} {name : Str} {o : Expr} {f : D → Sto → Res D} {r : V → List V → Hp → VK → Prop} {pp : D → Sto → Bool} {mo : MEx} {apos cpos : Pos} (pa : PlainAttrs T) (slot : Slot T name id) (hty : typeOf (.builtin id) = pure (.type "method_descriptor")) (hm : MtR X id r) (hs : Met0 X.K G W f r)
    (htv : ∀ φ S H d v, Emb X.K G φ S H → RV X.K H φ d v → pp d S = true → tyV X.K T v H) (ho : PE X o (wpE X.K G W mo)) (hbase : attributeBase o name X.env (eval o X.env) = eval o X.env := by rfl) (hline : (apos.endLine == cpos.line) = true := by rfl) :
    PE X (.Call (.Attribute o name apos) [] [] cpos) (wpE X.K G W (mBM0 pp f mo)) := by
  refine pe_conv (pe_bm0 pa slot hty hm ho hbase hline) ?_
  rintro σ H Q ⟨φ, ρ, S, em, rs, h⟩
  refine ⟨φ, ρ, S, em, rs, h.bind fun d S1 φ1 v H1 x1 em1 rv h1 => ?_⟩
  split at h1
  · rename_i hp
    exact ⟨htv _ _ _ _ _ em1 rv hp, hs φ1 S1 σ H1 d v Q em1 rv h1⟩
  · exact h1.elim
def lClear (d : D) (S : Sto) : Res D := match d with
  | .loc l => match S[l]? with
    | some (.lst false _) => .ok .non (S.set l (.lst false []))
    | _ => .stuck
  | _ => .stuck
theorem s_clear {K : PySem.W.Frag} : Met0 K G W lClear rClear := by
  intro φ S σ H d v Q em r h
  unfold lClear at h
  split at h
  · split at h
    · rename_i l xs es
      obtain ⟨a, rfl, ha, ro⟩ := em.at_loc es r
      obtain ⟨ws, e1, rv⟩ := ro.lstM
      obtain ⟨xa, em2⟩ := lst_write em es ha e1 (.nil : RVs K H φ [] [])
      exact ⟨a, ws, rfl, rfl, e1, h φ .non _ xa em2 .non⟩
    · exact h.elim
  · exact h.elim
end
end MP

set_option Elab.async false
set_option linter.all false
set_option maxRecDepth 100000
set_option maxHeartbeats 4000000
namespace MP
open PySem L2
/-! ### the mirrors' steps, one row each (no step looks into what comes behind) -/
section
variable {α : Type} {f : D → D → Sto → Res D} {a b m mo : MEx} {ma mb mc : MTs} {ms : MAr} {ρ ρ' : Rho} {S S' : Sto} {d x y : D} {ds : List D} {e : Ex} {n : Nat} {mf : MFn} {c : Cl} {sa sb : MSt} {is : List Nat} {i : Nat} {t : Tg}
def kVar (o : Option (Option D)) (S : Sto) : Res D := match o with
  | some (some d) => .ok d S
  | _ => .stuck
theorem r_var : mVar i ρ S = kVar ρ[i]? S := by unfold mVar kVar; rfl
theorem kVar_ok : kVar (some (some d)) S = .ok d S := rfl
theorem r_c : mC d ρ S = .ok d S := rfl
def kOpA (r : Res D) (f : D → D → Sto → Res D) (b : MEx) (ρ : Rho) : Res D := r.bind fun x S1 => (b ρ S1).bind fun y S2 => f x y S2
def kOpB (r : Res D) (f : D → D → Sto → Res D) (x : D) : Res D := r.bind fun y S2 => f x y S2
theorem r_op2 : mOp2 f a b ρ S = kOpA (a ρ S) f b ρ := rfl
theorem kOpA_ok : kOpA (.ok x S) f b ρ = kOpB (b ρ S) f x := rfl
theorem kOpA_exc : kOpA (.exc e S) f b ρ = .exc e S := rfl
theorem kOpB_ok : kOpB (.ok y S) f x = f x y S := rfl
theorem kOpB_exc : kOpB (.exc e S) f x = .exc e S := rfl
theorem r_test : mTest m ρ S = (m ρ S).bind asB := rfl
theorem r_asB {k : Bool} : asB (.bl k) S = .ok k S := rfl
def kAnd (r : Res Bool) (b : MTs) (ρ : Rho) : Res Bool := r.bind fun c S1 => if c = true then b ρ S1 else .ok false S1
def kOr (r : Res Bool) (b : MTs) (ρ : Rho) : Res Bool := r.bind fun c S1 => if c = true then .ok true S1 else b ρ S1
def kNot (r : Res Bool) : Res Bool := r.bind fun c S1 => .ok (!c) S1
theorem r_and : tAnd' ma mb ρ S = kAnd (ma ρ S) mb ρ := rfl
theorem r_or : tOr' ma mb ρ S = kOr (ma ρ S) mb ρ := rfl
theorem r_not : tNot' ma ρ S = kNot (ma ρ S) := rfl
theorem kAnd_t : kAnd (.ok true S) mb ρ = mb ρ S := rfl
theorem kAnd_f : kAnd (.ok false S) mb ρ = .ok false S := rfl
theorem kAnd_exc : kAnd (.exc e S) mb ρ = .exc e S := rfl
theorem kOr_t : kOr (.ok true S) mb ρ = .ok true S := rfl
theorem kOr_f : kOr (.ok false S) mb ρ = mb ρ S := rfl
theorem kOr_exc : kOr (.exc e S) mb ρ = .exc e S := rfl
theorem kNot_ok {k : Bool} : kNot (.ok k S) = .ok (!k) S := rfl
theorem kNot_exc : kNot (.exc e S) = .exc e S := rfl
def kMAnd (r : Res D) (b : MEx) (ρ : Rho) : Res D := r.bind fun d S1 => match d with
  | .bl true => b ρ S1
  | .bl false => .ok (.bl false) S1
  | _ => .stuck
def kMOr (r : Res D) (b : MEx) (ρ : Rho) : Res D := r.bind fun d S1 => match d with
  | .bl true => .ok (.bl true) S1
  | .bl false => b ρ S1
  | _ => .stuck
def kMNot (r : Res D) : Res D := r.bind fun d S1 => match d with
  | .bl b => .ok (.bl (!b)) S1
  | _ => .stuck
theorem r_mand : mAnd a b ρ S = kMAnd (a ρ S) b ρ := rfl
theorem r_mor : mOr a b ρ S = kMOr (a ρ S) b ρ := rfl
theorem r_mnot : mNot a ρ S = kMNot (a ρ S) := rfl
theorem kMAnd_t : kMAnd (.ok (.bl true) S) b ρ = b ρ S := rfl
theorem kMAnd_f : kMAnd (.ok (.bl false) S) b ρ = .ok (.bl false) S := rfl
theorem kMOr_t : kMOr (.ok (.bl true) S) b ρ = .ok (.bl true) S := rfl
theorem kMOr_f : kMOr (.ok (.bl false) S) b ρ = b ρ S := rfl
theorem kMNot_ok {k : Bool} : kMNot (.ok (.bl k) S) = .ok (.bl (!k)) S := rfl
def kIfE (r : Res Bool) (a b : MEx) (ρ : Rho) : Res D := r.bind fun t S1 => if t = true then a ρ S1 else b ρ S1
theorem r_ife : mIfE mc a b ρ S = kIfE (mc ρ S) a b ρ := rfl
theorem kIfE_t : kIfE (.ok true S) a b ρ = a ρ S := rfl
theorem kIfE_f : kIfE (.ok false S) a b ρ = b ρ S := rfl
theorem kIfE_exc : kIfE (.exc e S) a b ρ = .exc e S := rfl
theorem r_anil : aNil ρ S = .ok [] S := rfl
def kArg (r : Res D) (ms : MAr) (ρ : Rho) : Res (List D) := r.bind fun d S1 => (ms ρ S1).bind fun ds S2 => .ok (d :: ds) S2
def kArgs (r : Res (List D)) (d : D) : Res (List D) := r.bind fun ds S2 => .ok (d :: ds) S2
theorem r_acons : aCons a ms ρ S = kArg (a ρ S) ms ρ := rfl
theorem kArg_ok : kArg (.ok d S) ms ρ = kArgs (ms ρ S) d := rfl
theorem kArg_exc : kArg (.exc e S) ms ρ = .exc e S := rfl
theorem kArgs_ok : kArgs (.ok ds S) d = .ok (d :: ds) S := rfl
theorem kArgs_exc : kArgs (.exc e S) d = .exc e S := rfl
theorem r_tup : mTup ms ρ S = (ms ρ S).bind tupD := rfl
theorem r_lst : mLst ms ρ S = (ms ρ S).bind lstD := rfl
theorem r_fld {f : Fl} : mFld f a ρ S = (a ρ S).bind (getF f) := rfl
def kCall (r : Res (List D)) (n : Nat) (mf : MFn) : Res D := r.bind fun ds S1 => if ds.length = n then mf ds S1 else .stuck
theorem r_call : mCall n mf ms ρ S = kCall (ms ρ S) n mf := rfl
theorem kCall_ok (h : ds.length = n) : kCall (.ok ds S) n mf = mf ds S := if_pos h
theorem kCall_exc : kCall (.exc e S) n mf = .exc e S := rfl
theorem r_call0 : mCall0 mf ρ S = noX (mf [] S) := rfl
theorem noX_ok {u : α} : noX (.ok u S) = .ok u S := rfl
def kM1 (r : Res D) (c : Cl) (n : Nat) (mf : MFn) (ms : MAr) (ρ : Rho) : Res D := r.bind fun d S1 => (selfC c d S1).bind fun _ _ => (ms ρ S1).bind fun ds S2 => if ds.length + 1 = n then mf (d :: ds) S2 else .stuck
def kM2 (r : Res D) (d : D) (n : Nat) (mf : MFn) (ms : MAr) (ρ : Rho) (S : Sto) : Res D := r.bind fun _ _ => (ms ρ S).bind fun ds S2 => if ds.length + 1 = n then mf (d :: ds) S2 else .stuck
def kM3 (r : Res (List D)) (d : D) (n : Nat) (mf : MFn) : Res D := r.bind fun ds S2 => if ds.length + 1 = n then mf (d :: ds) S2 else .stuck
theorem r_meth : mMeth c n mf mo ms ρ S = kM1 (mo ρ S) c n mf ms ρ := rfl
theorem kM1_ok : kM1 (.ok d S) c n mf ms ρ = kM2 (selfC c d S) d n mf ms ρ S := rfl
theorem kM1_exc : kM1 (.exc e S) c n mf ms ρ = .exc e S := rfl
theorem kM2_ok : kM2 (.ok x S') d n mf ms ρ S = kM3 (ms ρ S) d n mf := rfl
theorem kM2_stuck : kM2 .stuck d n mf ms ρ S = .stuck := rfl
theorem kM3_ok (h : ds.length + 1 = n) : kM3 (.ok ds S) d n mf = mf (d :: ds) S := if_pos h
theorem kM3_exc : kM3 (.exc e S) d n mf = .exc e S := rfl
def kN1 (r : Res D) (c : Cl) (mf : MFn) : Res D := r.bind fun d S1 => (selfC c d S1).bind fun _ _ => noX (mf [d] S1)
def kN2 (r : Res D) (d : D) (mf : MFn) (S : Sto) : Res D := r.bind fun _ _ => noX (mf [d] S)
theorem r_meth0 : mMeth0 c mf mo ρ S = kN1 (mo ρ S) c mf := rfl
theorem kN1_ok : kN1 (.ok d S) c mf = kN2 (selfC c d S) d mf S := rfl
theorem kN1_exc : kN1 (.exc e S) c mf = .exc e S := rfl
theorem kN2_ok : kN2 (.ok x S') d mf S = noX (mf [d] S) := rfl
theorem kN2_stuck : kN2 .stuck d mf S = .stuck := rfl
theorem selfC_ok {l : Nat} {fs : List (Fl × D)} (h : S[l]? = some (.ins c fs)) : selfC c (.loc l) S = .ok (.loc l) S := by unfold selfC; simp only [h, if_true]
theorem selfC_no {l : Nat} {c' : Cl} {fs : List (Fl × D)} (h : S[l]? = some (.ins c' fs)) (hc : c' ≠ c) : selfC c (.loc l) S = .stuck := by unfold selfC; simp only [h, if_neg hc]
def kMake (r : Res (List D)) (c : Cl) (n : Nat) (mf : MFn) : Res D := r.bind fun ds S1 => if ds.length + 1 = n then mkEnd S1.length (mf (.loc S1.length :: ds) (S1 ++ [.ins c []])) else .stuck
theorem r_make : mMake c n mf ms ρ S = kMake (ms ρ S) c n mf := rfl
theorem kMake_ok (h : ds.length + 1 = n) : kMake (.ok ds S) c n mf = mkEnd S.length (mf (.loc S.length :: ds) (S ++ [.ins c []])) := if_pos h
theorem mkEnd_ok {l : Nat} : mkEnd l (.ok .non S) = .ok (.loc l) S := rfl
theorem r_cb {g : List D → Sto → Res D} : mCB g ms ρ S = (ms ρ S).bind g := rfl
theorem r_isi {T : String} : mIsi T a ρ S = (a ρ S).bind (isiR T) := rfl
theorem isiR_ok {T u : String} (h : d.ty S = some u) : isiR T d S = .ok (.bl (isT u T)) S := by unfold isiR; simp only [h]
def kBM1 (r : Res D) (p : D → Sto → Bool) (g : D → List D → Sto → Res D) (ms : MAr) (ρ : Rho) : Res D := r.bind fun d S1 => if p d S1 = true then (ms ρ S1).bind fun ds S2 => g d ds S2 else .stuck
def kBM2 (r : Res (List D)) (g : D → List D → Sto → Res D) (d : D) : Res D := r.bind fun ds S2 => g d ds S2
theorem r_bm {p : D → Sto → Bool} {g : D → List D → Sto → Res D} : mBM p g mo ms ρ S = kBM1 (mo ρ S) p g ms ρ := rfl
theorem kBM1_ok {p : D → Sto → Bool} {g : D → List D → Sto → Res D} (h : p d S = true) : kBM1 (.ok d S) p g ms ρ = kBM2 (ms ρ S) g d := if_pos h
theorem kBM2_ok {g : D → List D → Sto → Res D} : kBM2 (.ok ds S) g d = g d ds S := rfl
def kAlt (r : Res D) (b : MEx) (ρ : Rho) (S : Sto) : Res D := match r with
  | .stuck => b ρ S
  | r => r
theorem r_alt : mAlt a b ρ S = kAlt (a ρ S) b ρ S := rfl
theorem kAlt_ok : kAlt (.ok d S') b ρ S = .ok d S' := rfl
theorem kAlt_exc : kAlt (.exc e S') b ρ S = .exc e S' := rfl
theorem kAlt_stuck : kAlt .stuck b ρ S = b ρ S := rfl
def kSl1 (r : Res D) (ml mh : MPt) (ρ : Rho) : Res D := r.bind fun o S1 => (ml ρ S1).bind fun lo S2 => (mh ρ S2).bind fun hi S3 => slD' o lo hi S3
def kSl2 (r : Res (Option Int)) (o : D) (mh : MPt) (ρ : Rho) : Res D := r.bind fun lo S2 => (mh ρ S2).bind fun hi S3 => slD' o lo hi S3
def kSl3 (r : Res (Option Int)) (o : D) (lo : Option Int) : Res D := r.bind fun hi S3 => slD' o lo hi S3
theorem r_sl {ml mh : MPt} : mSl' mo ml mh ρ S = kSl1 (mo ρ S) ml mh ρ := rfl
theorem kSl1_ok {ml mh : MPt} : kSl1 (.ok d S) ml mh ρ = kSl2 (ml ρ S) d mh ρ := rfl
theorem kSl2_ok {lo : Option Int} {mh : MPt} : kSl2 (.ok lo S) d mh ρ = kSl3 (mh ρ S) d lo := rfl
theorem kSl3_ok {lo hi : Option Int} : kSl3 (.ok hi S) d lo = slD' d lo hi S := rfl
theorem r_ptN : ptNone ρ S = .ok none S := rfl
theorem r_ptS : ptSome m ρ S = (m ρ S).bind optI := rfl
theorem optI_ok {j : Int} : optI (.int j) S = .ok (some j) S := rfl
/-! statements -/
theorem r_nil : sNil ρ S = .nx ρ S := rfl
def kSeq (r : SR) (b : MSt) : SR := match r with
  | .nx ρ' S' => b ρ' S'
  | r => r
theorem r_seq : sSeq sa sb ρ S = kSeq (sa ρ S) sb := by unfold sSeq kSeq; rfl
theorem kSeq_nx : kSeq (.nx ρ S) sb = sb ρ S := rfl
theorem kSeq_rt : kSeq (.rt d S) sb = .rt d S := rfl
theorem kSeq_xc : kSeq (.xc e ρ S) sb = .xc e ρ S := rfl
theorem kSeq_bk : kSeq (.bk ρ S) sb = .bk ρ S := rfl
theorem kSeq_ct : kSeq (.ct ρ S) sb = .ct ρ S := rfl
def kClr (r : SR) (is : List Nat) : SR := match r with
  | .nx ρ' S' => .nx (clr is ρ') S'
  | r => r
theorem r_clr : sClr is sa ρ S = kClr (sa ρ S) is := by unfold sClr kClr; rfl
theorem kClr_nx : kClr (.nx ρ S) is = .nx (clr is ρ) S := rfl
theorem kClr_rt : kClr (.rt d S) is = .rt d S := rfl
theorem kClr_xc : kClr (.xc e ρ S) is = .xc e ρ S := rfl
theorem kClr_bk : kClr (.bk ρ S) is = .bk ρ S := rfl
theorem kClr_ct : kClr (.ct ρ S) is = .ct ρ S := rfl
theorem clr_nil : clr [] ρ = ρ := rfl
theorem clr_cons : clr (i :: is) ρ = (clr is ρ).set i none := rfl
def kSet (r : Res D) (i : Nat) (ρ : Rho) : SR := r.st ρ fun d S1 => .nx (ρ.set i (some d)) S1
theorem r_set : sSet i m ρ S = kSet (m ρ S) i ρ := rfl
theorem kSet_ok : kSet (.ok d S) i ρ = .nx (ρ.set i (some d)) S := rfl
theorem kSet_exc : kSet (.exc e S) i ρ = .xc e ρ S := rfl
def kExpr (r : Res D) (ρ : Rho) : SR := r.st ρ fun _ S1 => .nx ρ S1
theorem r_expr : sExpr m ρ S = kExpr (m ρ S) ρ := rfl
theorem kExpr_ok : kExpr (.ok d S) ρ = .nx ρ S := rfl
theorem kExpr_exc : kExpr (.exc e S) ρ = .xc e ρ S := rfl
def kRet (r : Res D) (ρ : Rho) : SR := r.st ρ fun d S1 => .rt d S1
theorem r_ret : sRet m ρ S = kRet (m ρ S) ρ := rfl
theorem kRet_ok : kRet (.ok d S) ρ = .rt d S := rfl
theorem kRet_exc : kRet (.exc e S) ρ = .xc e ρ S := rfl
theorem r_retN : sRetN ρ S = .rt .non S := rfl
def kSIf (r : Res Bool) (a b : MSt) (ρ : Rho) : SR := r.st ρ fun t S1 => if t = true then a ρ S1 else b ρ S1
theorem r_if : sIf mc sa sb ρ S = kSIf (mc ρ S) sa sb ρ := rfl
theorem kSIf_t : kSIf (.ok true S) sa sb ρ = sa ρ S := rfl
theorem kSIf_f : kSIf (.ok false S) sa sb ρ = sb ρ S := rfl
theorem kSIf_exc : kSIf (.exc e S) sa sb ρ = .xc e ρ S := rfl
theorem r_brk : sBrk ρ S = .bk ρ S := rfl
theorem r_cont : sCont ρ S = .ct ρ S := rfl
def kFor (r : Res MIt) (t : Tg) (b : MSt) (ρ : Rho) : SR := r.st ρ fun it S1 => forGo it t b it.fuel 0 ρ S1
theorem r_for {mi : MIx} : sFor mi t sb ρ S = kFor (mi ρ S) t sb ρ := rfl
theorem kFor_ok {it : MIt} : kFor (.ok it S) t sb ρ = forGo it t sb it.fuel 0 ρ S := rfl
def kIt (r : Option MIt) (S : Sto) : Res MIt := match r with
  | some it => .ok it S
  | none => .stuck
def kItA {α : Type} (r : Res α) (f : α → Sto → Option MIt) : Res MIt := r.it f
theorem kItA_ok {g : α → Sto → Option MIt} {u : α} : kItA (.ok u S) g = kIt (g u S) S := by unfold kItA Res.it kIt; rfl
theorem kIt_some {it : MIt} : kIt (some it) S = .ok it S := rfl
theorem r_itL : miL m ρ S = kItA (m ρ S) itL := rfl
theorem r_itT : miT m ρ S = kItA (m ρ S) itT := rfl
theorem r_itS : miS m ρ S = kItA (m ρ S) itS := rfl
theorem r_itR1 : miR1 ms ρ S = kItA (ms ρ S) itR1 := rfl
theorem r_itR2 : miR2 ms ρ S = kItA (ms ρ S) itR2 := rfl
theorem r_itEn : miEn ms ρ S = kItA (ms ρ S) itEn := rfl
def kAsg (r : Res D) (t : Tg) (ρ : Rho) : SR := r.st ρ fun d S1 => sTgO (tgM t d ρ S1) S1
theorem r_asg : sAsg t m ρ S = kAsg (m ρ S) t ρ := rfl
theorem kAsg_ok : kAsg (.ok d S) t ρ = sTgO (tgM t d ρ S) S := rfl
theorem sTgO_some : sTgO (some ρ) S = .nx ρ S := rfl
theorem tgM_nm : tgM (.nm i) d ρ S = some (ρ.set i (some d)) := rfl
theorem tgM_tp (h : items S d = some ds) (hl : ds.length = is.length) : tgM (.tp is) d ρ S = some (setAllM ρ is ds) := by simp only [tgM, h, if_pos hl]
theorem setAllM_nil : setAllM ρ [] [] = ρ := rfl
theorem setAllM_cons : setAllM ρ (i :: is) (d :: ds) = setAllM (ρ.set i (some d)) is ds := rfl
def kAug1 (o : Option (Option D)) (m : MEx) (f : D → D → Sto → Res D) (i : Nat) (ρ : Rho) (S : Sto) : SR := match o with
  | some (some x) => (m ρ S).st ρ fun y S1 => (f x y S1).st ρ fun z S2 => .nx (ρ.set i (some z)) S2
  | _ => .stuck
def kAug2 (r : Res D) (x : D) (f : D → D → Sto → Res D) (i : Nat) (ρ : Rho) : SR := r.st ρ fun y S1 => (f x y S1).st ρ fun z S2 => .nx (ρ.set i (some z)) S2
theorem r_aug : sAug i f m ρ S = kAug1 ρ[i]? m f i ρ S := by unfold sAug kAug1; rfl
theorem kAug1_ok : kAug1 (some (some x)) m f i ρ S = kAug2 (m ρ S) x f i ρ := rfl
theorem kAug2_ok : kAug2 (.ok y S) x f i ρ = kSet (f x y S) i ρ := rfl
def kFS1 (r : Res D) (f : Fl) (mo : MEx) (ρ : Rho) : SR := r.st ρ fun v S1 => (mo ρ S1).st ρ fun o S2 => nxO ρ (setF f o v S2)
def kFS2 (r : Res D) (f : Fl) (v : D) (ρ : Rho) : SR := r.st ρ fun o S2 => nxO ρ (setF f o v S2)
theorem r_fs {f : Fl} : sFldS f mo m ρ S = kFS1 (m ρ S) f mo ρ := rfl
theorem kFS1_ok {f : Fl} : kFS1 (.ok d S) f mo ρ = kFS2 (mo ρ S) f d ρ := rfl
theorem kFS2_ok {f : Fl} : kFS2 (.ok x S) f d ρ = nxO ρ (setF f x d S) := rfl
theorem nxO_some : nxO ρ (some S) = .nx ρ S := rfl
def kSL1 (r : Res D) (mo mi : MEx) (ρ : Rho) : SR := r.st ρ fun v S1 => (mo ρ S1).st ρ fun o S2 => (mi ρ S2).st ρ fun i S3 => nxO ρ (setI o i v S3)
def kSL2 (r : Res D) (mi : MEx) (v : D) (ρ : Rho) : SR := r.st ρ fun o S2 => (mi ρ S2).st ρ fun i S3 => nxO ρ (setI o i v S3)
def kSL3 (r : Res D) (o v : D) (ρ : Rho) : SR := r.st ρ fun i S3 => nxO ρ (setI o i v S3)
theorem r_sl1 {mi : MEx} : sSetL mo mi m ρ S = kSL1 (m ρ S) mo mi ρ := rfl
theorem kSL1_ok {mi : MEx} : kSL1 (.ok d S) mo mi ρ = kSL2 (mo ρ S) mi d ρ := rfl
theorem kSL2_ok {mi : MEx} : kSL2 (.ok x S) mi d ρ = kSL3 (mi ρ S) x d ρ := rfl
theorem kSL3_ok : kSL3 (.ok y S) x d ρ = nxO ρ (setI x y d S) := rfl
def kFn (r : SR) : Res D := r.fn
theorem r_fnB {N : Nat} : fnB N sb ds S = kFn (sb (ds.map some ++ List.replicate (N - ds.length) none) S) := rfl
theorem kFn_nx : kFn (.nx ρ S) = .ok .non S := rfl
theorem kFn_rt : kFn (.rt d S) = .ok d S := rfl
theorem kFn_xc : kFn (.xc e ρ S) = .exc e S := rfl
def kLc (r : Res MIt) (t : Tg) (tt : MTs) (me : MEx) (own : List Nat) (ρ : Rho) : Res D := r.bind fun it S1 => lcGo it t tt me (clr own ρ) S1.length it.fuel 0 (S1 ++ [.lst false []])
theorem r_lc {mi : MIx} {me : MEx} {own : List Nat} : mLc mi t mc me own ρ S = kLc (mi ρ S) t mc me own ρ := rfl
theorem kLc_ok {it : MIt} {me : MEx} {own : List Nat} : kLc (.ok it S) t mc me own ρ = lcGo it t mc me (clr own ρ) S.length it.fuel 0 (S ++ [.lst false []]) := rfl
theorem r_yes : tYesM ρ S = .ok true S := rfl
/-! what is read of the store -/
def kTg (o : Option (List D)) (is : List Nat) (ρ : Rho) (S : Sto) : SR := match o with
  | some xs => if xs.length = is.length then .nx (setAllM ρ is xs) S else .stuck
  | none => .stuck
theorem r_tgtp : sTgO (tgM (.tp is) d ρ S) S = kTg (items S d) is ρ S := by
  simp only [tgM]
  generalize items S d = o
  cases o with
  | none => rfl
  | some xs =>
    dsimp only [kTg]
    by_cases h : xs.length = is.length
    · rw [if_pos h, if_pos h]; rfl
    · rw [if_neg h, if_neg h]; rfl
theorem kTg_ok (h : ds.length = is.length) : kTg (some ds) is ρ S = .nx (setAllM ρ is ds) S := if_pos h
def kItems (o : Option O) : Option (List D) := match o with
  | some (.lst _ xs) => some xs
  | _ => none
theorem r_items {l : Nat} : items S (.loc l) = kItems S[l]? := by unfold items kItems; rfl
theorem r_itemsT : items S (.tup ds) = some ds := rfl
theorem kItems_ok {fz : Bool} : kItems (some (.lst fz ds)) = some ds := rfl
def kSelf (o : Option O) (c : Cl) (l : Nat) (S : Sto) : Res D := match o with
  | some (.ins c' _) => if c' = c then .ok (.loc l) S else .stuck
  | _ => .stuck
theorem r_self {l : Nat} : selfC c (.loc l) S = kSelf S[l]? c l S := by unfold selfC kSelf; rfl
theorem kSelf_ok {fs : List (Fl × D)} {l : Nat} : kSelf (some (.ins c fs)) c l S = .ok (.loc l) S := if_pos rfl
theorem kSelf_no {fs : List (Fl × D)} {l : Nat} {c' : Cl} (h : c' ≠ c) : kSelf (some (.ins c' fs)) c l S = .stuck := if_neg h
def kIsi (o : Option String) (T : String) (d : D) (S : Sto) : Res D := match o with
  | some u => .ok (.bl (isT u T)) S
  | none => .stuck
theorem r_isiR {T : String} : isiR T d S = kIsi (d.ty S) T d S := by unfold isiR kIsi; rfl
theorem kIsi_ok {T u : String} : kIsi (some u) T d S = .ok (.bl (isT u T)) S := rfl
def kTy (o : Option O) : Option String := match o with
  | some (.lst _ _) => some "list"
  | some (.dct _ _) => some "dict"
  | _ => none
theorem r_ty {l : Nat} : D.ty (.loc l) S = kTy S[l]? := by unfold D.ty kTy; rfl
theorem kTy_l {fz : Bool} : kTy (some (.lst fz ds)) = some "list" := rfl
def kGetF (o : Option O) (f : Fl) (S : Sto) : Res D := match o with
  | some (.ins _ fs) => match fs.lookup f with
    | some x => .ok x S
    | none => .stuck
  | _ => .stuck
theorem r_getF {f : Fl} {l : Nat} : getF f (.loc l) S = kGetF S[l]? f S := by unfold getF kGetF; rfl
def kLk (o : Option D) (S : Sto) : Res D := match o with
  | some x => .ok x S
  | none => .stuck
theorem kGetF_ok {f : Fl} {fs : List (Fl × D)} : kGetF (some (.ins c fs)) f S = kLk (fs.lookup f) S := by unfold kGetF kLk; rfl
theorem kLk_ok : kLk (some x) S = .ok x S := rfl
theorem lk_yes {f : Fl} {fs : List (Fl × D)} : List.lookup f ((f, x) :: fs) = some x := by simp [List.lookup]
theorem lk_no {f g : Fl} {fs : List (Fl × D)} (h : (f == g) = false) : List.lookup f ((g, x) :: fs) = List.lookup f fs := by simp only [List.lookup, h]
def kSetF (o : Option O) (f : Fl) (v : D) (l : Nat) (S : Sto) : Option Sto := match o with
  | some (.ins c fs) => if okF c f = true ∧ fs.length < 1000 then some (S.set l (.ins c (putFl f v fs))) else none
  | _ => none
theorem r_setF {f : Fl} {l : Nat} : setF f (.loc l) d S = kSetF S[l]? f d l S := by unfold setF kSetF; rfl
theorem kSetF_ok {f : Fl} {l : Nat} {fs : List (Fl × D)} (h : okF c f = true) (hl : fs.length < 1000) : kSetF (some (.ins c fs)) f d l S = some (S.set l (.ins c (putFl f d fs))) := if_pos ⟨h, hl⟩
def kItL (o : Option O) (l : Nat) : Option MIt := match o with
  | some (.lst _ xs) => some ⟨lstGet l, xs.length + 1⟩
  | _ => none
theorem r_itLl {l : Nat} : itL (.loc l) S = kItL S[l]? l := by unfold itL kItL; rfl
theorem kItL_ok {fz : Bool} {l : Nat} : kItL (some (.lst fz ds)) l = some ⟨lstGet l, ds.length + 1⟩ := rfl
def kIsL (o : Option O) : Bool := match o with
  | some (.lst _ _) => true
  | _ => false
theorem r_isL {l : Nat} : isL (.loc l) S = kIsL S[l]? := by unfold isL kIsL; rfl
theorem kIsL_ok {fz : Bool} : kIsL (some (.lst fz ds)) = true := rfl
def kApp (o : Option O) (l : Nat) (y : D) (S : Sto) : Res D := match o with
  | some (.lst false xs) => if xs.length < sizeLine then .ok .non (S.set l (.lst false (xs ++ [y]))) else .stuck
  | _ => .stuck
theorem r_lApp {l : Nat} : lAppend (.loc l) [y] S = kApp S[l]? l y S := by unfold lAppend kApp; rfl
theorem kApp_ok {l : Nat} (h : ds.length < sizeLine) : kApp (some (.lst false ds)) l y S = .ok .non (S.set l (.lst false (ds ++ [y]))) := if_pos h
def kGetI (o : Option O) (j : Int) (S : Sto) : Res D := match o with
  | some (.lst _ xs) => match atI xs j with
    | some x => .ok x S
    | none => .stuck
  | _ => .stuck
theorem r_getI {l : Nat} {j : Int} : getI (.loc l) (.int j) S = kGetI S[l]? j S := by
  (unfold getI kGetI; dsimp only) <;> (generalize S[l]? = o; rcases o with _ | _ | _ | _ <;> rfl)
theorem kGetI_ok {fz : Bool} {j : Int} : kGetI (some (.lst fz ds)) j S = kLk (atI ds j) S := by
  (unfold kGetI kLk; dsimp only) <;> (generalize atI ds j = o; cases o <;> rfl)
theorem r_getIT {j : Int} : getI (.tup ds) (.int j) S = kLk (atI ds j) S := by
  (unfold getI kLk; dsimp only) <;> (generalize atI ds j = o; cases o <;> rfl)
def kSetI (o : Option O) (j : Int) (v : D) (l : Nat) (S : Sto) : Option Sto := match o with
  | some (.lst false xs) => match ixN xs.length j with
    | some n => some (S.set l (.lst false (xs.set n v)))
    | none => none
  | _ => none
theorem r_setI {l : Nat} {j : Int} : setI (.loc l) (.int j) d S = kSetI S[l]? j d l S := by unfold setI kSetI; rfl
def kStO (o : Option Nat) (ds : List D) (v : D) (l : Nat) (S : Sto) : Option Sto := match o with
  | some n => some (S.set l (.lst false (ds.set n v)))
  | none => none
theorem kSetI_ok {l : Nat} {j : Int} : kSetI (some (.lst false ds)) j d l S = kStO (ixN ds.length j) ds d l S := by unfold kSetI kStO; rfl
theorem kStO_ok {l n : Nat} : kStO (some n) ds d l S = some (S.set l (.lst false (ds.set n d))) := rfl
end
end MP

set_option Elab.async false
set_option linter.all false
set_option maxRecDepth 100000
set_option maxHeartbeats 4000000
namespace MP
open PySem L2
/-! ### reckoning with the mirrors -/
theorem le_line {n : Nat} (h : n ≤ 100000) : (n ≤ sizeLine) = True := by
  rw [sizeLine_eq]
  exact eq_true (by omega)
theorem lt_line {n : Nat} (h : n ≤ 100000) : (n < sizeLine) = True := by
  rw [sizeLine_eq]
  exact eq_true (by omega)
theorem tupD_ok {ds : List D} {S : Sto} (h : ds.length ≤ 100000) : tupD ds S = .ok (.tup ds) S := by
  unfold tupD; rw [if_pos (by rw [le_line h]; trivial)]
theorem lstD_ok {ds : List D} {S : Sto} (h : ds.length ≤ 100000) : lstD ds S = .ok (.loc S.length) (S ++ [.lst false ds]) := by
  unfold lstD; rw [if_pos (by rw [le_line h]; trivial)]; rfl
theorem sub_int (i j : Int) (S : Sto) : intOp subI (.int i) (.int j) S = .ok (.int (i - j)) S := rfl
theorem add_int (i j : Int) (S : Sto) : addD (.int i) (.int j) S = .ok (.int (i + j)) S := rfl
theorem addI_int (i j : Int) (S : Sto) : intOp addI (.int i) (.int j) S = .ok (.int (i + j)) S := rfl
theorem mod_int {i j : Int} {S : Sto} (h : 0 < j) : intOp modI (.int i) (.int j) S = .ok (.int (i % j)) S := by
  unfold intOp modI; simp only [if_pos h]
theorem fdiv_int {i j : Int} {S : Sto} (h : 0 < j) (h2 : j.natAbs.log2 < 9000) : intOp fdivI (.int i) (.int j) S = .ok (.int (i / j)) S := by
  unfold intOp fdivI; simp only [if_pos (And.intro h h2)]
theorem mul_int' {i j : Int} {S : Sto} (h : (Builtin.Int.intBits i : Int) + (Builtin.Int.intBits j : Int) ≤ 134217728) : mulD (.int i) (.int j) S = .ok (.int (i * j)) S := by
  unfold mulD; simp only [if_pos h]
theorem mul_int {i j : Int} {S : Sto} {a b : Nat} (ha : i.natAbs < 2 ^ a) (hb : j.natAbs < 2 ^ b) (h : a + b ≤ 134217728) : mulD (.int i) (.int j) S = .ok (.int (i * j)) S := mul_int' (mulx_ok ha hb h)
theorem band_int (i j : Int) (S : Sto) : intOp andI (.int i) (.int j) S = .ok (.int (Builtin.bitAnd i j)) S := rfl
theorem bor_int (i j : Int) (S : Sto) : intOp orI (.int i) (.int j) S = .ok (.int (Builtin.bitOr i j)) S := rfl
theorem shr_int {i j : Int} {S : Sto} (h : 0 ≤ j) : intOp shrI (.int i) (.int j) S = .ok (.int (i / 2 ^ j.toNat)) S := by
  unfold intOp shrI; simp only [if_pos h]
theorem shl_int {i j : Int} {n : Nat} {S : Sto} (h0 : 0 ≤ j) (h : i.natAbs < 2 ^ n) (hn : n + j.toNat ≤ 134217728) : intOp shlI (.int i) (.int j) S = .ok (.int (i * 2 ^ j.toNat)) S := by
  have q := shl_ok h hn
  have e : ((j.toNat : Nat) : Int) = j := by omega
  rw [e] at q
  unfold intOp shlI
  simp only [if_pos (show 0 ≤ j ∧ (Builtin.Int.intBits i : Int) + j ≤ 2 ^ 27 from q)]
theorem pow_int {i j : Int} {S : Sto} (h : 0 ≤ j ∧ j ≤ 1000000 ∧ i.natAbs < 2 ^ 64) : intOp powI (.int i) (.int j) S = .ok (.int (i ^ j.toNat)) S := by
  unfold intOp powI; simp only [if_pos h]
theorem lt_int (i j : Int) (S : Sto) : cmpI ltI (.int i) (.int j) S = .ok (.bl (decide (i < j))) S := rfl
theorem le_int (i j : Int) (S : Sto) : cmpI leI (.int i) (.int j) S = .ok (.bl (decide (i ≤ j))) S := rfl
theorem gt_int (i j : Int) (S : Sto) : cmpI gtI (.int i) (.int j) S = .ok (.bl (decide (j < i))) S := rfl
theorem ge_int (i j : Int) (S : Sto) : cmpI geI (.int i) (.int j) S = .ok (.bl (decide (j ≤ i))) S := rfl
theorem eq_int (i j : Int) (S : Sto) : eqR (.int i) (.int j) S = .ok (.bl (decide (i = j))) S := rfl
theorem ne_int (i j : Int) (S : Sto) : neR (.int i) (.int j) S = .ok (.bl (!decide (i = j))) S := rfl
theorem eq_str (i j : Str) (S : Sto) : eqR (.str i) (.str j) S = .ok (.bl (decide (i = j))) S := rfl
theorem ne_str (i j : Str) (S : Sto) : neR (.str i) (.str j) S = .ok (.bl (!decide (i = j))) S := rfl
theorem is_non (d : D) (S : Sto) : isD d .non S = .ok (.bl d.isN) S := rfl
theorem isNot_non (d : D) (S : Sto) : isNotD d .non S = .ok (.bl (!d.isN)) S := rfl
theorem isN_non : D.isN .non = true := rfl
theorem isN_int (i : Int) : D.isN (.int i) = false := rfl
theorem isN_tup (xs : List D) : D.isN (.tup xs) = false := rfl
theorem isN_str (xs : Str) : D.isN (.str xs) = false := rfl
theorem isN_loc (l : Nat) : D.isN (.loc l) = false := rfl
theorem isN_bl (l : Bool) : D.isN (.bl l) = false := rfl
theorem cInt_int (i : Int) (S : Sto) : cInt [.int i] S = .ok (.int i) S := rfl
theorem cInt_bl (b : Bool) (S : Sto) : cInt [.bl b] S = .ok (.int (if b then 1 else 0)) S := rfl
theorem cAbs_int (i : Int) (S : Sto) : cAbs [.int i] S = .ok (.int (if i < 0 then -i else i)) S := rfl
theorem ty_int (i : Int) (S : Sto) : D.ty (.int i) S = some "int" := rfl
theorem ty_bl (i : Bool) (S : Sto) : D.ty (.bl i) S = some "bool" := rfl
theorem ty_str (i : Str) (S : Sto) : D.ty (.str i) S = some "str" := rfl
theorem ty_tup (i : List D) (S : Sto) : D.ty (.tup i) S = some "tuple" := rfl
theorem ty_non (S : Sto) : D.ty .non S = some "NoneType" := rfl
theorem isT_ii : isT "int" "int" = true := by decide
theorem isT_ib : isT "int" "bool" = false := by decide
theorem isT_bb : isT "bool" "bool" = true := by decide
theorem isT_bi : isT "bool" "int" = true := by decide
theorem isT_ni : isT "NoneType" "int" = false := by decide
/-- the list at l is read -/
theorem items_loc {S : Sto} {l : Nat} {fz : Bool} {xs : List D} (h : S[l]? = some (.lst fz xs)) : items S (.loc l) = some xs := by
  unfold items; simp only [h]
theorem items_tup {S : Sto} {xs : List D} : items S (.tup xs) = some xs := rfl
theorem itL_ok {S : Sto} {l : Nat} {fz : Bool} {xs : List D} (h : S[l]? = some (.lst fz xs)) : itL (.loc l) S = some ⟨lstGet l, xs.length + 1⟩ := by
  unfold itL; simp only [h]
theorem lstGet_ok {S : Sto} {l : Nat} {fz : Bool} {xs : List D} (h : S[l]? = some (.lst fz xs)) (i : Nat) : lstGet l i S = some xs[i]? := by
  unfold lstGet; simp only [h]
theorem getI_loc {S : Sto} {l : Nat} {fz : Bool} {xs : List D} {j : Nat} {d : D} (h : S[l]? = some (.lst fz xs)) (hj : xs[j]? = some d) : getI (.loc l) (.int (j : Int)) S = .ok d S := by
  unfold getI; simp only [h, atI_nat hj]
theorem getI_tup {S : Sto} {xs : List D} {j : Nat} {d : D} (hj : xs[j]? = some d) : getI (.tup xs) (.int (j : Int)) S = .ok d S := by
  unfold getI; simp only [atI_nat hj]
theorem lAppend_ok {S : Sto} {l : Nat} {xs : List D} {y : D} (h : S[l]? = some (.lst false xs)) (hl : xs.length ≤ 100000) : lAppend (.loc l) [y] S = .ok .non (S.set l (.lst false (xs ++ [y]))) := by
  unfold lAppend; simp only [h, lt_line hl, if_true]
theorem isL_ok {S : Sto} {l : Nat} {fz : Bool} {xs : List D} (h : S[l]? = some (.lst fz xs)) : isL (.loc l) S = true := by
  unfold isL; simp only [h]
/-! ### the store -/
theorem get_app {S T : Sto} {l : Nat} {o : O} (h : S[l]? = some o) : (S ++ T)[l]? = some o := by
  rw [List.getElem?_append_left (List.getElem?_eq_some_iff.mp h).1]; exact h
theorem get_last (S : Sto) (o : O) : (S ++ [o])[S.length]? = some o := by simp
theorem set_last (S : Sto) (o o' : O) : (S ++ [o]).set S.length o' = S ++ [o'] := by simp
/-! ### for -/
theorem forGo_ind {it : MIt} {t : Tg} {b : MSt} (xs : List D) (P : Nat → Rho → Sto → Prop) (Q : SR → Prop)
    (hget : ∀ i ρ S, i ≤ xs.length → P i ρ S → it.get i S = some xs[i]?)
    (hstep : ∀ i x ρ S, xs[i]? = some x → P i ρ S → ∃ ρ1, tgM t x ρ S = some ρ1 ∧ match b ρ1 S with
      | .nx ρ' S' => P (i + 1) ρ' S'
      | .ct ρ' S' => P (i + 1) ρ' S'
      | .bk ρ' S' => Q (.nx ρ' S')
      | r => Q r)
    (hend : ∀ ρ S, P xs.length ρ S → Q (.nx ρ S)) : ∀ m i ρ S, xs.length < m + i → i ≤ xs.length → P i ρ S → Q (forGo it t b m i ρ S)
  | 0, i, ρ, S, h1, h2, _ => by omega
  | m + 1, i, ρ, S, h1, h2, p => by
    unfold forGo
    rw [hget i ρ S h2 p]
    cases e : xs[i]? with
    | none =>
      have : xs.length ≤ i := List.getElem?_eq_none_iff.mp e
      have h3 : i = xs.length := by omega
      subst h3
      exact hend ρ S p
    | some x =>
      obtain ⟨ρ1, e1, hq⟩ := hstep i x ρ S e p
      have hi := (List.getElem?_eq_some_iff.mp e).1
      simp only [e1]
      cases qb : b ρ1 S with
      | nx ρ' S' => rw [qb] at hq; exact forGo_ind xs P Q hget hstep hend m (i + 1) ρ' S' (by omega) (by omega) hq
      | ct ρ' S' => rw [qb] at hq; exact forGo_ind xs P Q hget hstep hend m (i + 1) ρ' S' (by omega) (by omega) hq
      | bk ρ' S' => rw [qb] at hq; exact hq
      | rt d S' => rw [qb] at hq; exact hq
      | xc e' ρ' S' => rw [qb] at hq; exact hq
      | stuck => rw [qb] at hq; exact hq
/-- a loop that folds -/
theorem forGo_fold {α : Type} {it : MIt} {t : Tg} {b : MSt} (xs : List D) (f : α → D → α) (R : α → Rho) (T : α → Sto) (a0 : α) (hget : ∀ i a, i ≤ xs.length → it.get i (T a) = some xs[i]?)
    (hstep : ∀ a x, x ∈ xs → ∃ ρ1, tgM t x (R a) (T a) = some ρ1 ∧ b ρ1 (T a) = .nx (R (f a x)) (T (f a x))) {m : Nat} (hm : xs.length < m) : forGo it t b m 0 (R a0) (T a0) = .nx (R (xs.foldl f a0)) (T (xs.foldl f a0)) := by
  refine forGo_ind xs (fun i ρ S => ρ = R ((xs.take i).foldl f a0) ∧ S = T ((xs.take i).foldl f a0)) (fun r => r = .nx (R (xs.foldl f a0)) (T (xs.foldl f a0))) ?_ ?_ ?_ m 0 _ _ (by omega) (Nat.zero_le _) ⟨rfl, rfl⟩
  · rintro i ρ S hi ⟨rfl, rfl⟩
    exact hget i _ hi
  · rintro i x ρ S e ⟨rfl, rfl⟩
    obtain ⟨ρ1, e1, e2⟩ := hstep ((xs.take i).foldl f a0) x (List.mem_of_getElem? e)
    refine ⟨ρ1, e1, ?_⟩
    rw [e2]
    have e3 : xs.take (i + 1) = xs.take i ++ [x] := by
      rw [List.take_add_one, e]; rfl
    simp only [e3, List.foldl_append, List.foldl_cons, List.foldl_nil, and_self]
  · rintro ρ S ⟨rfl, rfl⟩
    rw [List.take_length]
/-! ### one loop, by an invariant -/
def stepQ (P : Rho → Sto → Prop) (Q : SR → Prop) : SR → Prop
  | .nx ρ S => P ρ S
  | .ct ρ S => P ρ S
  | .bk ρ S => Q (.nx ρ S)
  | r => Q r
theorem stepQ_nx {P : Rho → Sto → Prop} {Q : SR → Prop} {ρ : Rho} {S : Sto} : stepQ P Q (.nx ρ S) = P ρ S := rfl
theorem stepQ_ct {P : Rho → Sto → Prop} {Q : SR → Prop} {ρ : Rho} {S : Sto} : stepQ P Q (.ct ρ S) = P ρ S := rfl
theorem stepQ_bk {P : Rho → Sto → Prop} {Q : SR → Prop} {ρ : Rho} {S : Sto} : stepQ P Q (.bk ρ S) = Q (.nx ρ S) := rfl
theorem stepQ_rt {P : Rho → Sto → Prop} {Q : SR → Prop} {d : D} {S : Sto} : stepQ P Q (.rt d S) = Q (.rt d S) := rfl
theorem stepQ_xc {P : Rho → Sto → Prop} {Q : SR → Prop} {e : Ex} {ρ : Rho} {S : Sto} : stepQ P Q (.xc e ρ S) = Q (.xc e ρ S) := rfl
theorem forI {it : MIt} {t : Tg} {b : MSt} {m : Nat} {ρ0 : Rho} {S0 : Sto} {r : SR} (hr : forGo it t b m 0 ρ0 S0 = r) (xs : List D) (P : Nat → Rho → Sto → Prop) (Q : SR → Prop) (hm : xs.length < m) (h0 : P 0 ρ0 S0)
    (hget : ∀ i ρ S, i ≤ xs.length → P i ρ S → it.get i S = some xs[i]?)
    (hstep : ∀ i x ρ S, xs[i]? = some x → P i ρ S → ∃ ρ1, tgM t x ρ S = some ρ1 ∧ stepQ (P (i + 1)) Q (b ρ1 S))
    (hend : ∀ ρ S, P xs.length ρ S → Q (.nx ρ S)) : Q r := by
  rw [← hr]
  refine forGo_ind xs P Q hget ?_ hend m 0 ρ0 S0 (by omega) (Nat.zero_le _) h0
  intro i x ρ S e p
  obtain ⟨ρ1, e1, q⟩ := hstep i x ρ S e p
  refine ⟨ρ1, e1, ?_⟩
  cases hb : b ρ1 S <;> rw [hb] at q <;> exact q
/-- over a list that stays -/
theorem forL {l : Nat} {k : Nat} {t : Tg} {b : MSt} {m : Nat} {ρ0 : Rho} {S0 : Sto} {r : SR} (hr : forGo ⟨lstGet l, k⟩ t b m 0 ρ0 S0 = r) (xs : List D) (P : Nat → Rho → Sto → Prop) (Q : SR → Prop) (hm : xs.length < m) (h0 : P 0 ρ0 S0)
    (hget : ∀ i ρ S, P i ρ S → ∃ fz, S[l]? = some (.lst fz xs))
    (hstep : ∀ i x ρ S, xs[i]? = some x → P i ρ S → ∃ ρ1, tgM t x ρ S = some ρ1 ∧ stepQ (P (i + 1)) Q (b ρ1 S))
    (hend : ∀ ρ S, P xs.length ρ S → Q (.nx ρ S)) : Q r :=
  forI hr xs P Q hm h0 (fun i ρ S _ p => by obtain ⟨fz, e⟩ := hget i ρ S p; exact lstGet_ok e i) hstep hend
theorem rng_get {lo : Int} {n i : Nat} {S : Sto} : rngGet lo n i S = some ((List.range n).map fun k : Nat => D.int (lo + k))[i]? := by
  unfold rngGet
  by_cases h : i < n
  · simp [h]
  · simp [h]
/-- over a range -/
theorem forR {lo : Int} {n k : Nat} {t : Tg} {b : MSt} {m : Nat} {ρ0 : Rho} {S0 : Sto} {r : SR} (hr : forGo ⟨rngGet lo n, k⟩ t b m 0 ρ0 S0 = r) (P : Nat → Rho → Sto → Prop) (Q : SR → Prop) (hm : n < m) (h0 : P 0 ρ0 S0)
    (hstep : ∀ i ρ S, i < n → P i ρ S → ∃ ρ1, tgM t (.int (lo + i)) ρ S = some ρ1 ∧ stepQ (P (i + 1)) Q (b ρ1 S))
    (hend : ∀ ρ S, P n ρ S → Q (.nx ρ S)) : Q r := by
  have hlen : ((List.range n).map fun k : Nat => D.int (lo + k)).length = n := by simp
  refine forI hr ((List.range n).map fun k : Nat => D.int (lo + k)) P Q (by rw [hlen]; exact hm) h0 (fun i ρ S _ _ => @rng_get lo n i S) ?_ (by rw [hlen]; exact hend)
  intro i x ρ S e p
  have hi := (List.getElem?_eq_some_iff.mp e).1
  rw [hlen] at hi
  simp [hi] at e
  subst e
  exact hstep i ρ S hi p
theorem forT {xs : List D} {k : Nat} {t : Tg} {b : MSt} {m : Nat} {ρ0 : Rho} {S0 : Sto} {r : SR} (hr : forGo ⟨fixGet xs, k⟩ t b m 0 ρ0 S0 = r) (P : Nat → Rho → Sto → Prop) (Q : SR → Prop) (hm : xs.length < m) (h0 : P 0 ρ0 S0)
    (hstep : ∀ i x ρ S, xs[i]? = some x → P i ρ S → ∃ ρ1, tgM t x ρ S = some ρ1 ∧ stepQ (P (i + 1)) Q (b ρ1 S))
    (hend : ∀ ρ S, P xs.length ρ S → Q (.nx ρ S)) : Q r := forI hr xs P Q hm h0 (fun _ _ _ _ _ => rfl) hstep hend
/-! ### more steps -/
def kLen (o : Option O) (S : Sto) : Res D := match o with
  | some (.lst _ xs) => .ok (.int xs.length) S
  | some (.dct false kvs) => .ok (.int kvs.length) S
  | _ => .stuck
theorem r_len {l : Nat} {S : Sto} : cLen [.loc l] S = kLen S[l]? S := by
  (unfold cLen kLen; dsimp only) <;> (generalize S[l]? = o; rcases o with _ | _ | ⟨_ | _, _⟩ | _ <;> rfl)
theorem kLen_ok {fz : Bool} {ds : List D} {S : Sto} : kLen (some (.lst fz ds)) S = .ok (.int ds.length) S := rfl
theorem len_tup {ds : List D} {S : Sto} : cLen [.tup ds] S = .ok (.int ds.length) S := rfl
def kSl4 (o : Option O) (lo hi : Option Int) (S : Sto) : Res D := match o with
  | some (.lst _ xs) => .ok (.loc S.length) (S ++ [.lst false (cutD xs lo hi)])
  | _ => .stuck
theorem r_sl4 {l : Nat} {lo hi : Option Int} {S : Sto} : slD' (.loc l) lo hi S = kSl4 S[l]? lo hi S := by
  (unfold slD' kSl4; dsimp only) <;> (generalize S[l]? = o; rcases o with _ | _ | _ | _ <;> rfl)
theorem kSl4_ok {fz : Bool} {ds : List D} {lo hi : Option Int} {S : Sto} : kSl4 (some (.lst fz ds)) lo hi S = .ok (.loc S.length) (S ++ [.lst false (cutD ds lo hi)]) := rfl
theorem itR1_ok {j : Int} {S : Sto} (h0 : 0 ≤ j) (h1 : j < 2 ^ 62) : itR1 [.int j] S = some ⟨rngGet 0 j.toNat, j.toNat + 1⟩ := by
  simp only [itR1]; rw [if_pos ⟨by omega, h1⟩]
theorem itR2_ok {i j : Int} {S : Sto} (h0 : 0 ≤ i ∧ i < 2 ^ 62) (h1 : 0 ≤ j ∧ j < 2 ^ 62) : itR2 [.int i, .int j] S = some ⟨rngGet i (j - i).toNat, (j - i).toNat + 1⟩ := by
  simp only [itR2]; rw [if_pos ⟨by omega, by omega, by omega, by omega⟩]
theorem cut_from {xs : List D} {a : Nat} : cutD xs (some (a : Int)) none = xs.drop a := by
  unfold cutD
  have e1 : HT.sIx xs.length 0 (some (a : Int)) = min a xs.length := HT.sIx_nat _ _ _
  have e2 : HT.sIx xs.length xs.length none = xs.length := rfl
  rw [e1, e2]
  by_cases h : a ≤ xs.length
  · rw [Nat.min_eq_left h, List.take_of_length_le]; simp
  · rw [Nat.min_eq_right (by omega), List.drop_length, List.drop_of_length_le (by omega)]; simp
theorem cut_to {xs : List D} {a : Nat} : cutD xs none (some (a : Int)) = xs.take a := by
  unfold cutD
  have e1 : HT.sIx xs.length xs.length (some (a : Int)) = min a xs.length := HT.sIx_nat _ _ _
  have e2 : HT.sIx xs.length 0 none = 0 := rfl
  rw [e1, e2]
  by_cases h : a ≤ xs.length
  · rw [Nat.min_eq_left h]; simp
  · rw [Nat.min_eq_right (by omega), List.take_of_length_le (show xs.length ≤ a by omega)]; simp
theorem cut_both {xs : List D} {a b : Nat} : cutD xs (some (a : Int)) (some (b : Int)) = (xs.drop a).take (b - a) := by
  unfold cutD
  have e1 : HT.sIx xs.length 0 (some (a : Int)) = min a xs.length := HT.sIx_nat _ _ _
  have e2 : HT.sIx xs.length xs.length (some (b : Int)) = min b xs.length := HT.sIx_nat _ _ _
  rw [e1, e2]
  by_cases h : a ≤ xs.length
  · rw [Nat.min_eq_left h]
    by_cases h2 : b ≤ xs.length
    · rw [Nat.min_eq_left h2]
    · rw [Nat.min_eq_right (show xs.length ≤ b by omega), List.take_of_length_le (by simp), List.take_of_length_le (by simp; omega)]
  · rw [Nat.min_eq_right (show xs.length ≤ a by omega), List.drop_length, List.drop_of_length_le (show xs.length ≤ a by omega)]; simp
/-! a store with a tail of known objects -/
theorem at_0 {S T : Sto} {a : O} : (S ++ a :: T)[S.length]? = some a := by simp
theorem at_1 {S T : Sto} {a b : O} : (S ++ a :: b :: T)[S.length + 1]? = some b := by
  rw [List.getElem?_append_right (by omega)]; simp
theorem at_2 {S T : Sto} {a b c : O} : (S ++ a :: b :: c :: T)[S.length + 2]? = some c := by
  rw [List.getElem?_append_right (by omega)]; simp
theorem at_3 {S T : Sto} {a b c d : O} : (S ++ a :: b :: c :: d :: T)[S.length + 3]? = some d := by
  rw [List.getElem?_append_right (by omega)]; simp
theorem set_0 {S T : Sto} {a a' : O} : (S ++ a :: T).set S.length a' = S ++ a' :: T := by simp
theorem set_1 {S T : Sto} {a b b' : O} : (S ++ a :: b :: T).set (S.length + 1) b' = S ++ a :: b' :: T := by
  simp [List.set_append]
theorem set_2 {S T : Sto} {a b c c' : O} : (S ++ a :: b :: c :: T).set (S.length + 2) c' = S ++ a :: b :: c' :: T := by
  simp [List.set_append]
theorem len_app1 {S : Sto} {a : O} : (S ++ [a]).length = S.length + 1 := by simp
theorem len_app2 {S : Sto} {a b : O} : (S ++ [a, b]).length = S.length + 2 := by simp
theorem app_app1 {S T : Sto} {a : O} : (S ++ [a]) ++ T = S ++ a :: T := by simp
/-! ### sizes of ints -/
theorem bits_lt {z : Int} {n : Nat} (h : Builtin.Int.intBits z ≤ n) : z.natAbs < 2 ^ n := by
  unfold Builtin.Int.intBits at h
  split at h
  · rename_i hz
    have : z = 0 := by simpa using hz
    subst this
    exact Nat.two_pow_pos n
  · exact Nat.lt_of_lt_of_le (Nat.lt_log2_self) (Nat.pow_le_pow_right (by decide) h)
theorem abs_lt_pow {z : Int} {n : Nat} (h0 : 0 ≤ z) (h : z < 2 ^ n) : z.natAbs < 2 ^ n := by
  have : ((z.natAbs : Nat) : Int) = z := by omega
  have h2 : ((z.natAbs : Nat) : Int) < ((2 ^ n : Nat) : Int) := by rw [this, Int.natCast_pow]; exact h
  exact Int.ofNat_lt.mp h2
theorem mul_lt_pow {i j : Int} {a b : Nat} (ha : i.natAbs < 2 ^ a) (hb : j.natAbs < 2 ^ b) : (i * j).natAbs < 2 ^ (a + b) := by
  rw [Int.natAbs_mul, Nat.pow_add]
  exact Nat.mul_lt_mul'' ha hb
theorem log2_lt {z : Int} {n : Nat} (h0 : 0 < z) (h : z.natAbs < 2 ^ n) (hn : n ≤ 9000) : z.natAbs.log2 < 9000 := by
  have : z.natAbs.log2 < n := (Nat.log2_lt (by omega)).mpr h
  omega
theorem add_lt_pow {i j : Int} {a : Nat} (ha : i.natAbs < 2 ^ a) (hb : j.natAbs < 2 ^ a) : (i + j).natAbs < 2 ^ (a + 1) := by
  rw [Nat.pow_succ]
  have := Int.natAbs_add_le i j
  omega
/-! ### numbers drawn, by their own digits or mixed -/
def mix (c : Int) : Int :=
  let o := (c + 7) * 69621 % 2147483629
  c * 1583458089 % 2147483647 + 2147483647 * (o * o * o * o * o * 982451653)
def drawNum (c : Int) (free : Bool) : Int := if free then (if c < 0 then -c else c) else mix c
def digits (n : Int) : List Int → List Int
  | [] => []
  | s :: ss => n % s :: digits (n / s) ss
theorem mix_nn (c : Int) : 0 ≤ mix c := by
  unfold mix
  have h1 : 0 ≤ (c + 7) * 69621 % 2147483629 := Int.emod_nonneg _ (by decide)
  have h2 : 0 ≤ c * 1583458089 % 2147483647 := Int.emod_nonneg _ (by decide)
  have h3 := Int.mul_nonneg (Int.mul_nonneg (Int.mul_nonneg (Int.mul_nonneg h1 h1) h1) h1) h1
  have h4 := Int.mul_nonneg h3 (show (0 : Int) ≤ 982451653 by decide)
  have h5 := Int.mul_nonneg (show (0 : Int) ≤ 2147483647 by decide) h4
  show 0 ≤ _ + _
  omega
theorem drawNum_nn (c : Int) (free : Bool) : 0 ≤ drawNum c free := by
  unfold drawNum
  cases free with
  | true => simp only [if_true]; split <;> omega
  | false => exact mix_nn c
end MP

set_option Elab.async false
set_option linter.all false
set_option maxRecDepth 100000
set_option maxHeartbeats 4000000
namespace MP
open PySem L2
/-! ### equality of data -/
theorem optAll_map {α β : Type} {γ : Type} {f : α → Option β} {h : γ → α} {g : γ → β} : ∀ {xs : List γ}, (∀ x ∈ xs, f (h x) = some (g x)) → optAll f (xs.map h) = some (xs.map g)
  | [], _ => rfl
  | x :: xs, q => by
    have e1 := q x (List.mem_cons_self)
    have e2 := optAll_map (f := f) (h := h) (g := g) (xs := xs) fun y hy => q y (List.mem_cons_of_mem _ hy)
    simp only [List.map_cons, optAll, e1, e2]
theorem optAll_cons {α β : Type} {f : α → Option β} {x : α} {xs : List α} {y : β} {ys : List β} (h : f x = some y) (h2 : optAll f xs = some ys) : optAll f (x :: xs) = some (y :: ys) := by
  simp only [optAll, h, h2]
theorem optAll_mem {α β : Type} {f : α → Option β} : ∀ {xs : List α} {ys : List β}, optAll f xs = some ys → ∀ y ∈ ys, ∃ x ∈ xs, f x = some y
  | [], _, h, y, hy => by cases h; cases hy
  | x :: xs, ys, h, y, hy => by
    unfold optAll at h
    split at h
    · rename_i z zs e1 e2
      cases h
      rcases List.mem_cons.mp hy with rfl | hy
      · exact ⟨x, List.mem_cons_self, e1⟩
      · obtain ⟨w, hw, e⟩ := optAll_mem e2 y hy
        exact ⟨w, List.mem_cons_of_mem _ hw, e⟩
    · cases h
theorem depthAll_le {n : Nat} : ∀ {ps : List PyData}, (∀ p ∈ ps, p.depth ≤ n) → PyData.depthAll ps ≤ n
  | [], _ => by simp [PyData.depthAll]
  | p :: ps, h => by
    have h1 := h p List.mem_cons_self
    have h2 := depthAll_le (n := n) (ps := ps) fun q hq => h q (List.mem_cons_of_mem _ hq)
    simp only [PyData.depthAll]
    omega
theorem pd_depth {S : Sto} : ∀ {n : Nat} {d : D} {p : PyData}, pd S n d = some p → p.depth ≤ n := by
  intro n
  induction n with
  | zero => intro d p h; cases d <;> simp [pd] at h <;> subst h <;> simp [PyData.depth]
  | succ n ih =>
    intro d p h
    cases d with
    | tup xs =>
      simp only [pd] at h
      obtain ⟨ps, e, rfl⟩ := Option.map_eq_some_iff.mp h
      simp only [PyData.depth]
      have := depthAll_le (n := n) (ps := ps) fun q hq => by
        obtain ⟨x, _, ex⟩ := optAll_mem e q hq
        exact ih ex
      omega
    | loc l =>
      simp only [pd] at h
      split at h
      · obtain ⟨ps, e, rfl⟩ := Option.map_eq_some_iff.mp h
        simp only [PyData.depth]
        have := depthAll_le (n := n) (ps := ps) fun q hq => by
          obtain ⟨x, _, ex⟩ := optAll_mem e q hq
          exact ih ex
        omega
      · cases h
    | _ => simp [pd] at h; subst h; simp [PyData.depth]
theorem shaped_pd {S : Sto} {d : D} {p : PyData} (h : pd S 8 d = some p) (hc : p.canLay0 = true) : SeqAt.shaped p = true := by
  unfold SeqAt.shaped
  rw [hc, Bool.true_and]
  exact decide_eq_true (Nat.le_trans (pd_depth h) (by decide))
mutual
theorem eqv_refl : ∀ {p : PyData}, p.canLay0 = true → PyData.eqv p p = true
  | .none, _ => rfl
  | .bool b, _ => by simp [PyData.eqv]
  | .int i, _ => by simp [PyData.eqv]
  | .str x, _ => by simp [PyData.eqv]
  | .list xs, h => by simp only [PyData.eqv]; exact eqvAll_refl (by simpa [PyData.canLay0] using h)
  | .tuple xs, h => by simp only [PyData.eqv]; exact eqvAll_refl (by simpa [PyData.canLay0] using h)
  | .dict _, h => by simp [PyData.canLay0] at h
theorem eqvAll_refl : ∀ {ps : List PyData}, PyData.canLayAll0 ps = true → PyData.eqvAll ps ps = true
  | [], _ => rfl
  | p :: ps, h => by
    simp only [PyData.canLayAll0, Bool.and_eq_true] at h
    simp only [PyData.eqvAll, eqv_refl h.1, eqvAll_refl h.2, Bool.and_self]
end
mutual
/-- no truths inside: then == is being the same -/
def nb : PyData → Bool
  | .bool _ => false
  | .list xs => nbAll xs
  | .tuple xs => nbAll xs
  | _ => true
def nbAll : List PyData → Bool
  | [] => true
  | x :: xs => nb x && nbAll xs
end
mutual
theorem eqv_eq : ∀ {p q : PyData}, nb p = true → nb q = true → PyData.eqv p q = true → p = q := by
  intro p q h1 h2 h
  cases p <;> cases q <;> first
    | rfl
    | (exfalso; simp [nb] at h1; done)
    | (exfalso; simp [nb] at h2; done)
    | (exfalso; simp [PyData.eqv] at h; done)
    | (simp [PyData.eqv] at h; rw [h]; done)
    | (simp only [nb] at h1 h2; simp only [PyData.eqv] at h; rw [eqvAll_eq h1 h2 h])
theorem eqvAll_eq : ∀ {ps qs : List PyData}, nbAll ps = true → nbAll qs = true → PyData.eqvAll ps qs = true → ps = qs
  | [], [], _, _, _ => rfl
  | [], _ :: _, _, _, h => by simp [PyData.eqvAll] at h
  | _ :: _, [], _, _, h => by simp [PyData.eqvAll] at h
  | p :: ps, q :: qs, h1, h2, h => by
    simp only [nbAll, Bool.and_eq_true] at h1 h2
    simp only [PyData.eqvAll, Bool.and_eq_true] at h
    rw [eqv_eq h1.1 h2.1 h.1, eqvAll_eq h1.2 h2.2 h.2]
end
theorem eqD_pd {S : Sto} {x y : D} {p q : PyData} (hx : pd S 8 x = some p) (hy : pd S 8 y = some q) (h1 : p.canLay0 = true) (h2 : q.canLay0 = true) (b : Bool) (hb : PyData.eqv p q = b) (hs : x.scalar = false ∨ y.scalar = false) : eqD S x y = some b := by
  have deep : deepEq S x y = some b := by
    unfold deepEq
    rw [hx, hy]
    dsimp only
    rw [if_pos ⟨shaped_pd hx h1, shaped_pd hy h2⟩, hb]
  cases x <;> cases y <;> first | exact deep | (exfalso; simp [D.scalar] at hs; done)
theorem eqD_same {S : Sto} {x y : D} {p : PyData} (hx : pd S 8 x = some p) (hy : pd S 8 y = some p) (h1 : p.canLay0 = true) : eqD S x y = some true := by
  have deep : x.scalar = false ∨ y.scalar = false → eqD S x y = some true := eqD_pd hx hy h1 h1 true (eqv_refl h1)
  cases x <;> cases y <;> first
    | exact deep (.inl rfl)
    | exact deep (.inr rfl)
    | rfl
    | (simp [pd] at hx hy; subst hx; first | (cases hy; simp [eqD]; done) | (exfalso; cases hy; done) | (simp at hy; done) | (simp [eqD, hy]; done))
theorem eqR_same {S : Sto} {x y : D} {p : PyData} (hx : pd S 8 x = some p) (hy : pd S 8 y = some p) (h1 : p.canLay0 = true) : eqR x y S = .ok (.bl true) S := by
  unfold eqR; rw [eqD_same hx hy h1]
theorem neR_same {S : Sto} {x y : D} {p : PyData} (hx : pd S 8 x = some p) (hy : pd S 8 y = some p) (h1 : p.canLay0 = true) : neR x y S = .ok (.bl false) S := by
  unfold neR; rw [eqD_same hx hy h1]; rfl
theorem pd_loc {S : Sto} {n l : Nat} {fz : Bool} {xs : List D} {ps : List PyData} (h : S[l]? = some (.lst fz xs)) (hx : optAll (pd S n) xs = some ps) : pd S (n + 1) (.loc l) = some (.list ps) := by
  simp only [pd, h, hx]; rfl
theorem pd_tup {S : Sto} {n : Nat} {xs : List D} {ps : List PyData} (hx : optAll (pd S n) xs = some ps) : pd S (n + 1) (.tup xs) = some (.tuple ps) := by
  simp only [pd, hx]; rfl
theorem pd_int {S : Sto} {n : Nat} {i : Int} : pd S n (.int i) = some (.int i) := by cases n <;> rfl
theorem pd_str {S : Sto} {n : Nat} {i : Str} : pd S n (.str i) = some (.str i) := by cases n <;> rfl
theorem pd_bl {S : Sto} {n : Nat} {i : Bool} : pd S n (.bl i) = some (.bool i) := by cases n <;> rfl
theorem pd_non {S : Sto} {n : Nat} : pd S n .non = some .none := by cases n <;> rfl
theorem pd_ints {S : Sto} {n : Nat} {xs : List Int} : optAll (pd S n) (xs.map .int) = some (xs.map PyData.int) := optAll_map fun _ _ => pd_int
theorem lay_ints : ∀ {xs : List Int}, PyData.canLayAll0 (xs.map PyData.int) = true
  | [] => rfl
  | x :: xs => by simp only [List.map_cons, PyData.canLayAll0, PyData.canLay0, lay_ints, Bool.and_self]
theorem nb_ints : ∀ {xs : List Int}, nbAll (xs.map PyData.int) = true
  | [] => rfl
  | x :: xs => by simp only [List.map_cons, nbAll, nb, nb_ints, Bool.and_self]
theorem eqv_ints {xs ys : List Int} : PyData.eqv (.list (xs.map PyData.int)) (.list (ys.map PyData.int)) = decide (xs = ys) := by
  by_cases h : xs = ys
  · subst h
    rw [decide_eq_true rfl]
    exact eqv_refl (by simp only [PyData.canLay0]; exact lay_ints)
  · rw [decide_eq_false h]
    cases e : PyData.eqv (.list (xs.map PyData.int)) (.list (ys.map PyData.int)) with
    | false => rfl
    | true =>
      have q := eqv_eq (by simp only [nb]; exact nb_ints) (by simp only [nb]; exact nb_ints) e
      refine absurd ?_ h
      injection q with q
      exact List.map_inj_right (fun a b z => PyData.int.inj z) |>.mp q
theorem eqD_ints {S : Sto} {a b : Nat} {f g : Bool} {xs ys : List Int} (h1 : S[a]? = some (.lst f (xs.map .int))) (h2 : S[b]? = some (.lst g (ys.map .int))) : eqD S (.loc a) (.loc b) = some (decide (xs = ys)) :=
  eqD_pd (pd_loc h1 pd_ints) (pd_loc h2 pd_ints) (by simp only [PyData.canLay0]; exact lay_ints) (by simp only [PyData.canLay0]; exact lay_ints) _ eqv_ints (.inl rfl)
theorem eqR_ints {S : Sto} {a b : Nat} {f g : Bool} {xs ys : List Int} (h1 : S[a]? = some (.lst f (xs.map .int))) (h2 : S[b]? = some (.lst g (ys.map .int))) : eqR (.loc a) (.loc b) S = .ok (.bl (decide (xs = ys))) S := by
  unfold eqR; rw [eqD_ints h1 h2]
theorem neR_ints {S : Sto} {a b : Nat} {f g : Bool} {xs ys : List Int} (h1 : S[a]? = some (.lst f (xs.map .int))) (h2 : S[b]? = some (.lst g (ys.map .int))) : neR (.loc a) (.loc b) S = .ok (.bl (!decide (xs = ys))) S := by
  unfold neR; rw [eqD_ints h1 h2]
theorem eq_bl (a b : Bool) (S : Sto) : eqR (.bl a) (.bl b) S = .ok (.bl (decide (a = b))) S := rfl
theorem ne_bl (a b : Bool) (S : Sto) : neR (.bl a) (.bl b) S = .ok (.bl (!decide (a = b))) S := rfl
/-! ### index -1 and the like -/
theorem atI_pred {xs : List D} {k : Nat} (hk : k < xs.length) : ∃ x ∈ xs, atI xs ((k : Int) - 1) = some x := by
  cases k with
  | zero =>
    refine ⟨xs[xs.length - 1]'(by omega), List.getElem_mem _, ?_⟩
    unfold atI ixN
    rw [if_neg (by omega), if_pos (by omega)]
    simp only [Option.bind_some]
    rw [show (((0 : Nat) : Int) - 1 + (xs.length : Int)).toNat = xs.length - 1 by omega]
    exact List.getElem?_eq_getElem (by omega)
  | succ k =>
    refine ⟨xs[k]'(by omega), List.getElem_mem _, ?_⟩
    rw [show (((k + 1 : Nat) : Int) - 1) = (k : Int) by omega]
    exact atI_nat (List.getElem?_eq_getElem (by omega))
/-! ### bits of quotients -/
theorem div_lt_pow {c d : Int} {n : Nat} (hd : 0 < d) (hc : c.natAbs < 2 ^ n) : (c / d).natAbs < 2 ^ n := by
  have h1 : (c / d).natAbs ≤ c.natAbs := by
    by_cases h : 0 ≤ c
    · have h2 : c / d ≤ c := Int.ediv_le_self _ h
      have h3 : 0 ≤ c / d := Int.ediv_nonneg h (by omega)
      omega
    · have h2 : c ≤ c / d := by
        rw [Int.le_ediv_iff_mul_le hd]
        have := Int.mul_le_mul_of_nonpos_left (show c ≤ 0 by omega) (show (1 : Int) ≤ d by omega)
        omega
      have h3 : c / d < 0 := Int.ediv_neg_of_neg_of_pos (by omega) hd
      omega
  omega
theorem mod_lt_pow {c d : Int} {n : Nat} (hd : 0 < d) (hn : d.natAbs ≤ 2 ^ n) : (c % d).natAbs < 2 ^ n := by
  have h1 := Int.emod_nonneg c (show d ≠ 0 by omega)
  have h2 := Int.emod_lt_of_pos c hd
  omega
/-! ### stores with a known tail -/
theorem at_z {S T : Sto} : (S ++ T)[S.length]? = T[0]? := by
  rw [List.getElem?_append_right (Nat.le_refl _), Nat.sub_self]
theorem at_k {S T : Sto} {k : Nat} : (S ++ T)[S.length + k]? = T[k]? := by
  rw [List.getElem?_append_right (by omega), Nat.add_sub_cancel_left]
theorem set_z {S T : Sto} {o : O} : (S ++ T).set S.length o = S ++ T.set 0 o := by
  simp [List.set_append]
theorem set_k {S T : Sto} {k : Nat} {o : O} : (S ++ T).set (S.length + k) o = S ++ T.set k o := by
  simp [List.set_append]
def kAdd (a b : Option O) (S : Sto) : Res D := match a, b with
  | some (.lst _ xs), some (.lst _ ys) => if xs.length + ys.length ≤ sizeLine then .ok (.loc S.length) (S ++ [.lst false (xs ++ ys)]) else .stuck
  | _, _ => .stuck
theorem r_addL {a b : Nat} {S : Sto} : addD (.loc a) (.loc b) S = kAdd S[a]? S[b]? S := by
  simp only [addD, kAdd]
  generalize S[a]? = o
  generalize S[b]? = o'
  rcases o with _ | _ | _ | _ <;> rcases o' with _ | _ | _ | _ <;> rfl
theorem kAdd_ok {f g : Bool} {xs ys : List D} {S : Sto} (h : xs.length + ys.length ≤ sizeLine) : kAdd (some (.lst f xs)) (some (.lst g ys)) S = .ok (.loc S.length) (S ++ [.lst false (xs ++ ys)]) := if_pos h
/-! ### stores that only grow ahead of a place -/
theorem pfx_get {S S' : Sto} {i : Nat} {o : O} (h : S <+: S') (e : S[i]? = some o) : S'[i]? = some o := by
  obtain ⟨T, rfl⟩ := h
  exact get_app e
theorem pfx_app {S S' T : Sto} (h : S <+: S') : S <+: S' ++ T := by
  obtain ⟨U, rfl⟩ := h
  exact ⟨U ++ T, by rw [List.append_assoc]⟩
theorem pfx_set {S S' : Sto} {l : Nat} {o : O} (h : S <+: S') (hl : S.length ≤ l) : S <+: S'.set l o := by
  obtain ⟨U, rfl⟩ := h
  obtain ⟨k, rfl⟩ := Nat.exists_eq_add_of_le hl
  rw [set_k]
  exact ⟨_, rfl⟩
theorem pfx_len {S S' : Sto} (h : S <+: S') : S.length ≤ S'.length := h.length_le
theorem get_lt {S : Sto} {i : Nat} {o : O} (h : S[i]? = some o) : i < S.length := (List.getElem?_eq_some_iff.mp h).1
theorem set_get_self {S : Sto} {i : Nat} {o o' : O} (h : S[i]? = some o) : (S.set i o')[i]? = some o' := by
  rw [List.getElem?_set_self (get_lt h)]
theorem set_get_ne {S : Sto} {i j : Nat} {o o' : O} (h : S[j]? = some o) (hn : i ≠ j) : (S.set i o')[j]? = some o := by
  rw [List.getElem?_set_ne hn]; exact h
/-! ### n times a list -/
def kRep (a : Option O) (n : Int) (S : Sto) : Res D := match a with
  | some (.lst false xs) => if -(2 ^ 63) ≤ n ∧ n < 2 ^ 63 ∧ xs.length * n.toNat ≤ sizeLine then .ok (.loc S.length) (S ++ [.lst false (List.replicate n.toNat xs).flatten]) else .stuck
  | _ => .stuck
theorem r_rep {l : Nat} {n : Int} {S : Sto} : mulD (.loc l) (.int n) S = kRep S[l]? n S := by
  simp only [mulD, kRep]
  generalize S[l]? = o
  rcases o with _ | ⟨_ | _, _⟩ | _ | _ <;> rfl
theorem kRep_nat {x : D} {n : Nat} {S : Sto} (h : n ≤ 100000) : kRep (some (.lst false [x])) (n : Int) S = .ok (.loc S.length) (S ++ [.lst false (List.replicate n x)]) := by
  unfold kRep
  dsimp only
  rw [if_pos ⟨by omega, by omega, by rw [Int.toNat_natCast, List.length_singleton, Nat.one_mul, le_line h]; trivial⟩, Int.toNat_natCast]
  congr 3
  simp
/-! ### enumerate -/
def kEn (a : Option O) (l : Nat) : Option MIt := match a with
  | some (.lst _ xs) => some ⟨enGet l, xs.length + 1⟩
  | _ => none
theorem r_en {l : Nat} {S : Sto} : itEn [.loc l] S = kEn S[l]? l := by
  simp only [itEn, kEn] <;> (generalize S[l]? = o; rcases o with _ | _ | _ | _ <;> rfl)
theorem kEn_ok {fz : Bool} {xs : List D} {l : Nat} : kEn (some (.lst fz xs)) l = some ⟨enGet l, xs.length + 1⟩ := rfl
theorem enGet_ok {S : Sto} {l : Nat} {fz : Bool} {xs : List D} (h : S[l]? = some (.lst fz xs)) (i : Nat) : enGet l i S = some (xs[i]?.map fun d => .tup [.int (i : Nat), d]) := by
  simp only [enGet, h]
theorem forE {l : Nat} {k : Nat} {t : Tg} {b : MSt} {m : Nat} {ρ0 : Rho} {S0 : Sto} {r : SR} (hr : forGo ⟨enGet l, k⟩ t b m 0 ρ0 S0 = r) (xs : List D) (P : Nat → Rho → Sto → Prop) (Q : SR → Prop) (hm : xs.length < m) (h0 : P 0 ρ0 S0)
    (hget : ∀ i ρ S, P i ρ S → ∃ fz, S[l]? = some (.lst fz xs))
    (hstep : ∀ i x ρ S, xs[i]? = some x → P i ρ S → ∃ ρ1, tgM t (.tup [.int (i : Nat), x]) ρ S = some ρ1 ∧ stepQ (P (i + 1)) Q (b ρ1 S))
    (hend : ∀ ρ S, P xs.length ρ S → Q (.nx ρ S)) : Q r := by
  have hlen : (xs.mapIdx fun i d => D.tup [.int (i : Nat), d]).length = xs.length := List.length_mapIdx
  refine forI hr (xs.mapIdx fun i d => D.tup [.int (i : Nat), d]) P Q (by rw [hlen]; exact hm) h0 ?_ ?_ (by rw [hlen]; exact hend)
  · intro i ρ S _ p
    obtain ⟨fz, e⟩ := hget i ρ S p
    show enGet l i S = _
    rw [enGet_ok e, List.getElem?_mapIdx]
  · intro i x ρ S e p
    rw [List.getElem?_mapIdx] at e
    obtain ⟨y, ey, rfl⟩ := Option.map_eq_some_iff.mp e
    exact hstep i y ρ S ey p
/-! ### what a call leaves as it was -/
def Fr (W : List Nat) (S S' : Sto) : Prop := S.length ≤ S'.length ∧ ∀ i o, i ∉ W → S[i]? = some o → S'[i]? = some o
theorem Fr.refl {W : List Nat} {S : Sto} : Fr W S S := ⟨Nat.le_refl _, fun _ _ _ h => h⟩
theorem Fr.trans {W : List Nat} {S S' S'' : Sto} (a : Fr W S S') (b : Fr W S' S'') : Fr W S S'' := ⟨Nat.le_trans a.1 b.1, fun i o hi h => b.2 i o hi (a.2 i o hi h)⟩
theorem Fr.mono {W W' : List Nat} {S S' : Sto} (a : Fr W S S') (h : ∀ i, i ∈ W → i ∈ W') : Fr W' S S' := ⟨a.1, fun i o hi e => a.2 i o (fun z => hi (h i z)) e⟩
theorem Fr.pfx {W : List Nat} {S S' : Sto} (h : S <+: S') : Fr W S S' := ⟨pfx_len h, fun i o _ e => pfx_get h e⟩
theorem Fr.app {W : List Nat} {S T : Sto} : Fr W S (S ++ T) := .pfx ⟨_, rfl⟩
theorem Fr.set {W : List Nat} {S : Sto} {l : Nat} {o : O} (hl : l ∈ W) : Fr W S (S.set l o) :=
  ⟨by rw [List.length_set]; exact Nat.le_refl _, fun i o hi e => set_get_ne e (fun z => hi (z ▸ hl))⟩
/-! ### a comprehension by an invariant -/
def lcQ (P : Sto → Prop) (L : Nat) (tt : MTs) (me : MEx) (ρ1 : Rho) (S : Sto) : Prop :=
  ∃ b S2, tt ρ1 S = .ok b S2 ∧ (b = false → P S2) ∧ (b = true → ∃ y S3 acc, me ρ1 S2 = .ok y S3 ∧ S3[L]? = some (.lst false acc) ∧ acc.length < sizeLine ∧ P (S3.set L (.lst false (acc ++ [y]))))
theorem lcGo_ind {it : MIt} {t : Tg} {tt : MTs} {me : MEx} {ρ : Rho} {L : Nat} (xs : List D) (P : Nat → Sto → Prop) (Q : Res D → Prop)
    (hget : ∀ i S, i ≤ xs.length → P i S → it.get i S = some xs[i]?)
    (hstep : ∀ i x S, xs[i]? = some x → P i S → ∃ ρ1, tgM t x ρ S = some ρ1 ∧ lcQ (P (i + 1)) L tt me ρ1 S)
    (hend : ∀ S, P xs.length S → Q (.ok (.loc L) S)) : ∀ m i S, xs.length < m + i → i ≤ xs.length → P i S → Q (lcGo it t tt me ρ L m i S)
  | 0, i, S, h1, h2, _ => by omega
  | m + 1, i, S, h1, h2, p => by
    unfold lcGo
    rw [hget i S h2 p]
    cases e : xs[i]? with
    | none =>
      have : xs.length ≤ i := List.getElem?_eq_none_iff.mp e
      have h3 : i = xs.length := by omega
      subst h3
      exact hend S p
    | some x =>
      obtain ⟨ρ1, e1, b, S2, e2, hf, ht⟩ := hstep i x S e p
      have hi := (List.getElem?_eq_some_iff.mp e).1
      simp only [e1, e2, noX_ok, Res.bind_ok]
      cases b with
      | false => exact lcGo_ind xs P Q hget hstep hend m (i + 1) S2 (by omega) (by omega) (hf rfl)
      | true =>
        obtain ⟨y, S3, acc, e3, e4, e5, p'⟩ := ht rfl
        simp only [e3, noX_ok, Res.bind_ok, if_true, e4, e5]
        exact lcGo_ind xs P Q hget hstep hend m (i + 1) _ (by omega) (by omega) p'
theorem lcI {it : MIt} {t : Tg} {tt : MTs} {me : MEx} {ρ : Rho} {L m : Nat} {S0 : Sto} {r : Res D} (hr : lcGo it t tt me ρ L m 0 S0 = r) (xs : List D) (P : Nat → Sto → Prop) (Q : Res D → Prop) (hm : xs.length < m) (h0 : P 0 S0)
    (hget : ∀ i S, i ≤ xs.length → P i S → it.get i S = some xs[i]?)
    (hstep : ∀ i x S, xs[i]? = some x → P i S → ∃ ρ1, tgM t x ρ S = some ρ1 ∧ lcQ (P (i + 1)) L tt me ρ1 S)
    (hend : ∀ S, P xs.length S → Q (.ok (.loc L) S)) : Q r := by
  rw [← hr]
  exact lcGo_ind xs P Q hget hstep hend m 0 S0 (by omega) (Nat.zero_le _) h0
/-- a comprehension that only reckons -/
theorem lc_pure {it : MIt} {t : Tg} {tt : MTs} {me : MEx} {ρ : Rho} {m : Nat} {S0 : Sto} (xs : List D) (b : D → Bool) (f : D → D)
    (hget : ∀ i acc, it.get i (S0 ++ [.lst false acc]) = some xs[i]?)
    (hstep : ∀ x, x ∈ xs → ∀ acc, ∃ ρ1, tgM t x ρ (S0 ++ [.lst false acc]) = some ρ1 ∧ tt ρ1 (S0 ++ [.lst false acc]) = .ok (b x) (S0 ++ [.lst false acc]) ∧ (b x = true → me ρ1 (S0 ++ [.lst false acc]) = .ok (f x) (S0 ++ [.lst false acc])))
    (hl : xs.length ≤ 100000) (hm : xs.length < m) : lcGo it t tt me ρ S0.length m 0 (S0 ++ [.lst false []]) = .ok (.loc S0.length) (S0 ++ [.lst false ((xs.filter b).map f)]) := by
  refine lcI rfl xs (fun i S => S = S0 ++ [.lst false (((xs.take i).filter b).map f)]) (fun r => r = .ok (.loc S0.length) (S0 ++ [.lst false ((xs.filter b).map f)])) hm rfl ?_ ?_ ?_
  · rintro i S _ rfl
    exact hget i _
  · rintro i x S e rfl
    obtain ⟨ρ1, e1, e2, e3⟩ := hstep x (List.mem_of_getElem? e) (((xs.take i).filter b).map f)
    have e4 : xs.take (i + 1) = xs.take i ++ [x] := by rw [List.take_add_one, e]; rfl
    refine ⟨ρ1, e1, b x, _, e2, ?_, ?_⟩
    · intro hb
      rw [e4, List.filter_append, List.filter_cons_of_neg (by rw [hb]; exact Bool.false_ne_true), List.filter_nil, List.append_nil]
    · intro hb
      refine ⟨f x, _, ((xs.take i).filter b).map f, e3 hb, get_last _ _, ?_, ?_⟩
      · rw [lt_line]
        · trivial
        · rw [List.length_map]
          exact Nat.le_trans (List.length_filter_le _ _) (Nat.le_trans (by rw [List.length_take]; exact Nat.min_le_right _ _) hl)
      · rw [set_last, e4, List.filter_append, List.filter_cons_of_pos hb, List.filter_nil, List.map_append]
        rfl
  · rintro S rfl
    rw [List.take_length]
/-! ### while, by a measure -/
theorem whileI {c : MTs} {b : MSt} (P : Nat → Rho → Sto → Prop) (Q : SR → Prop) (hstep : ∀ n ρ S, P n ρ S → ∃ t S1, c ρ S = .ok t S1 ∧ (t = false → Q (.nx ρ S1)) ∧ (t = true → stepQ (fun ρ' S' => ∃ n', n' < n ∧ P n' ρ' S') Q (b ρ S1))) : ∀ m n ρ S, n < m → P n ρ S → Q (whileN c b m ρ S)
  | 0, n, ρ, S, h, _ => by omega
  | m + 1, n, ρ, S, h, p => by
    obtain ⟨t, S1, e, hf, ht⟩ := hstep n ρ S p
    unfold whileN
    rw [e]
    cases t with
    | false => exact hf rfl
    | true =>
      have q := ht rfl
      show Q (match b ρ S1 with
        | .nx ρ' S' => whileN c b m ρ' S'
        | .ct ρ' S' => whileN c b m ρ' S'
        | .bk ρ' S' => .nx ρ' S'
        | r => r)
      cases hb : b ρ S1 <;> rw [hb] at q
      case nx ρ' S' => obtain ⟨n', h1, h2⟩ := q; exact whileI P Q hstep m n' ρ' S' (by omega) h2
      case ct ρ' S' => obtain ⟨n', h1, h2⟩ := q; exact whileI P Q hstep m n' ρ' S' (by omega) h2
      all_goals exact q
theorem r_while {c : MTs} {b : MSt} {ρ : Rho} {S : Sto} : sWhile c b ρ S = whileN c b FUEL ρ S := rfl
theorem whileI' {c : MTs} {b : MSt} {ρ : Rho} {S : Sto} {r : SR} (hr : whileN c b FUEL ρ S = r) (P : Nat → Rho → Sto → Prop) (Q : SR → Prop) (n : Nat) (hn : n < 1000000) (h0 : P n ρ S) (hstep : ∀ n ρ S, P n ρ S → ∃ t S1, c ρ S = .ok t S1 ∧ (t = false → Q (.nx ρ S1)) ∧ (t = true → stepQ (fun ρ' S' => ∃ n', n' < n ∧ P n' ρ' S') Q (b ρ S1))) : Q r := by
  rw [← hr]
  exact whileI P Q hstep FUEL n ρ S hn h0
/-! ### in, of ints -/
theorem flat_ints {xs : List Int} : (xs.map D.int).all flatD = true := by
  rw [List.all_eq_true]
  intro x hx
  obtain ⟨i, _, rfl⟩ := List.mem_map.mp hx
  rfl
theorem inFlat_ints {a : Int} : ∀ {xs : List Int}, inFlat (.int a) (xs.map D.int) = decide (a ∈ xs)
  | [] => by simp [inFlat]
  | x :: xs => by
    have ih := inFlat_ints (a := a) (xs := xs)
    unfold inFlat at ih ⊢
    rw [List.map_cons, List.any_cons, ih]
    by_cases h : x = a
    · subst h; simp [eqFlat]
    · have h2 : a ≠ x := fun z => h z.symm
      have h3 : (x == a) = false := by simpa using h
      show ((x == a) || decide (a ∈ xs)) = _
      rw [h3, Bool.false_or]
      simp [List.mem_cons, h2]
theorem inQ_ints {l : Nat} {fz : Bool} {xs : List Int} {a : Int} {S : Sto} (h : S[l]? = some (.lst fz (xs.map .int))) : inQ false (.int a) (.loc l) S = .ok (.bl (decide (a ∈ xs))) S := by
  unfold inQ
  rw [r_items, h, kItems_ok]
  dsimp only
  rw [if_pos ⟨rfl, flat_ints⟩, inFlat_ints]
  rfl
theorem cList_ok {S : Sto} {l : Nat} {fz : Bool} {xs : List D} (h : S[l]? = some (.lst fz xs)) : cList [.loc l] S = .ok (.loc S.length) (S ++ [.lst false xs]) := by
  simp only [cList]
  rw [show items S (.loc l) = some xs by rw [r_items, h, kItems_ok]]
  rfl
/-! ### list.clear -/
def kBM0 (r : Res D) (p : D → Sto → Bool) (g : D → Sto → Res D) : Res D := r.bind fun d S1 => if p d S1 = true then g d S1 else .stuck
theorem r_bm0 {p : D → Sto → Bool} {g : D → Sto → Res D} {mo : MEx} {ρ : Rho} {S : Sto} : mBM0 p g mo ρ S = kBM0 (mo ρ S) p g := rfl
theorem kBM0_ok {p : D → Sto → Bool} {g : D → Sto → Res D} {d : D} {S : Sto} (h : p d S = true) : kBM0 (.ok d S) p g = g d S := if_pos h
def kClear (o : Option O) (l : Nat) (S : Sto) : Res D := match o with
  | some (.lst false _) => .ok .non (S.set l (.lst false []))
  | _ => .stuck
theorem r_lClear {l : Nat} {S : Sto} : lClear (.loc l) S = kClear S[l]? l S := by
  (simp only [lClear, kClear]) <;> (generalize S[l]? = o; rcases o with _ | ⟨_ | _, _⟩ | _ | _ <;> rfl)
theorem kClear_ok {l : Nat} {xs : List D} {S : Sto} : kClear (some (.lst false xs)) l S = .ok .non (S.set l (.lst false [])) := rfl
end MP

set_option Elab.async false
set_option linter.all false
set_option maxRecDepth 100000
set_option maxHeartbeats 4000000
namespace MP
open PySem L2
/-! ### the text by places -/
def top (i : Nat) : Stmt := PySem.Challenge.pw_heapsafe_k05_cells.main.body.getD i (.Pass ⟨0, 0, 0, 0⟩)
abbrev st_law_cell_at : Stmt := top 4
abbrev st_law_run : Stmt := top 6
abbrev st_Rooms_fill_in : Stmt := inClass (top 2) 3
abbrev st_Rooms_read : Stmt := inClass (top 2) 5
abbrev st_Rooms_set_free : Stmt := inClass (top 2) 4
abbrev st_Rooms_write : Stmt := inClass (top 2) 6
abbrev st_law_done : Stmt := top 7
abbrev st_law_drawn : Stmt := top 5
abbrev st_Rooms_init : Stmt := inClass (top 2) 0
abbrev st_law : Stmt := top 8
/-! ### the mirrors -/
/-- 0 _law_script, 1 _law_k -/
def b_law_cell_at : MSt :=
 (sSeq (sIf (mTest (mOp2 (cmpI ltI) (mVar 1) (mCB cLen (aCons (mVar 0) aNil))))
 (sRet (mOp2 getI (mVar 0) (mVar 1)))
 sNil)
 (sRet (mC (.int 0))))
def f_law_cell_at : MFn := fnB 2 b_law_cell_at
/-- 0 _law_inside, 1 _law_cells, 2 _law_place, 3 _law_most, 4 _law_full, 5 _law_many -/
def b_law_run : MSt :=
 (sSeq (sSet 5 (mC (.int 0)))
 (sSeq (sWhile (tAnd' (mTest (mOp2 (cmpI ltI) (mVar 5) (mVar 3))) (tAnd' (mTest (mOp2 (cmpI ltI) (mOp2 addD (mVar 2) (mVar 5)) (mCB cLen (aCons (mVar 0) aNil)))) (mTest (mOp2 eqR (mOp2 (intOp fdivI) (mOp2 addD (mVar 2) (mVar 5)) (mVar 1)) (mOp2 (intOp fdivI) (mVar 2) (mVar 1))))))
 (sSeq (sIf (mTest (mOp2 neR (mOp2 isNotD (mOp2 getI (mVar 0) (mOp2 addD (mVar 2) (mVar 5))) (mC .non)) (mVar 4)))
 (sRet (mVar 5))
 sNil)
 (sSet 5 (mOp2 addD (mVar 5) (mC (.int 1))))))
 (sRet (mVar 5))))
def f_law_run : MFn := fnB 6 b_law_run
/-- 0 self, 1 place, 2 some, 3 at, 4 value -/
def b_Rooms_fill_in : MSt :=
 (sClr [3, 4] (sFor (miEn (aCons (mVar 2) aNil)) (.tp [3, 4])
 (sClr [3, 4] (sSetL (mFld .inside (mVar 0)) (mOp2 addD (mVar 1) (mVar 3)) (mVar 4)))))
def f_Rooms_fill_in : MFn := fnB 5 b_Rooms_fill_in
/-- 0 self, 1 place -/
def b_Rooms_read : MSt :=
 (sRet (mOp2 getI (mFld .inside (mVar 0)) (mVar 1)))
def f_Rooms_read : MFn := fnB 2 b_Rooms_read
/-- 0 self, 1 place, 2 length, 3 at -/
def b_Rooms_set_free : MSt :=
 (sClr [3] (sFor (miR1 (aCons (mVar 2) aNil)) (.nm 3)
 (sClr [3] (sSetL (mFld .inside (mVar 0)) (mOp2 addD (mVar 1) (mVar 3)) (mC .non)))))
def f_Rooms_set_free : MFn := fnB 4 b_Rooms_set_free
/-- 0 self, 1 place, 2 value -/
def b_Rooms_write : MSt :=
 (sSetL (mFld .inside (mVar 0)) (mVar 1) (mVar 2))
def f_Rooms_write : MFn := fnB 3 b_Rooms_write
/-- 0 _law_rooms, 1 _law_inside, 2 _law_cells, 3 _law_parts, 4 _law_way, 5 _law_at, 6 _law_length, 7 _law_number, 8 _law_sort, 9 _law_place, 10 _law_value, 11 _law_many, 12 _law_some, 13 _law_k -/
def b_law_done : MSt :=
 (sSeq (sAsg (.tp [4, 5, 6, 7, 8]) (mVar 3))
 (sSeq (sSet 9 (mOp2 (intOp modI) (mVar 5) (mCB cLen (aCons (mVar 1) aNil))))
 (sSeq (sSet 10 (mOp2 getI (mLst (aCons (mVar 7) (aCons (mTup (aCons (mC (.str "thing")) (aCons (mVar 7) aNil))) aNil))) (mVar 8)))
 (sSeq (sClr [11, 12, 13] (sIf (tAnd' (mTest (mOp2 (cmpI ltI) (mVar 4) (mC (.int 2)))) (mTest (mOp2 isD (mOp2 getI (mVar 1) (mVar 9)) (mC .non))))
 (sSeq (sSet 11 (mCall 5 f_law_run (aCons (mVar 1) (aCons (mVar 2) (aCons (mVar 9) (aCons (mOp2 addD (mC (.int 1)) (mVar 6)) (aCons (mC (.bl false)) aNil)))))))
 (sSeq (sSet 12 (mOp2 mulD (mLst (aCons (mVar 10) aNil)) (mVar 11)))
 (sSeq (sExpr (mMeth .Rooms 3 f_Rooms_fill_in (mVar 0) (aCons (mVar 9) (aCons (mVar 12) aNil))))
 (sSeq (sExpr (mBM0 isL lClear (mVar 12)))
 (sClr [13] (sFor (miR1 (aCons (mVar 11) aNil)) (.nm 13)
 (sClr [13] (sSetL (mVar 1) (mOp2 addD (mVar 9) (mVar 13)) (mVar 10)))))))))
 (sClr [11, 13] (sIf (tAnd' (mTest (mOp2 eqR (mVar 4) (mC (.int 2)))) (mTest (mOp2 isNotD (mOp2 getI (mVar 1) (mVar 9)) (mC .non))))
 (sSeq (sSet 11 (mCall 5 f_law_run (aCons (mVar 1) (aCons (mVar 2) (aCons (mVar 9) (aCons (mOp2 addD (mC (.int 1)) (mVar 6)) (aCons (mC (.bl true)) aNil)))))))
 (sSeq (sExpr (mMeth .Rooms 3 f_Rooms_set_free (mVar 0) (aCons (mVar 9) (aCons (mVar 11) aNil))))
 (sClr [13] (sFor (miR1 (aCons (mVar 11) aNil)) (.nm 13)
 (sClr [13] (sSetL (mVar 1) (mOp2 addD (mVar 9) (mVar 13)) (mC .non)))))))
 (sIf (mTest (mOp2 isNotD (mOp2 getI (mVar 1) (mVar 9)) (mC .non)))
 (sSeq (sExpr (mMeth .Rooms 3 f_Rooms_write (mVar 0) (aCons (mVar 9) (aCons (mVar 10) aNil))))
 (sSetL (mVar 1) (mVar 9) (mVar 10)))
 sNil)))))
 (sRet (mOp2 eqR (mMeth .Rooms 2 f_Rooms_read (mVar 0) (aCons (mVar 9) aNil)) (mOp2 getI (mVar 1) (mVar 9))))))))
def f_law_done : MFn := fnB 14 b_law_done
/-- 0 _law_cell, 1 _law_sizes, 2 _law_free, 3 _law_number, 4 _law_other, 5 _law_found, 6 _law_size -/
def b_law_drawn : MSt :=
 (sSeq (sSet 3 (mCB cAbs (aCons (mVar 0) aNil)))
 (sSeq (sClr [4] (sIf (tNot' (mTest (mVar 2)))
 (sSeq (sSet 4 (mOp2 (intOp modI) (mOp2 mulD (mOp2 addD (mVar 0) (mC (.int 7))) (mC (.int 69621))) (mC (.int 2147483629))))
 (sSeq (sSet 4 (mOp2 mulD (mOp2 mulD (mOp2 mulD (mOp2 mulD (mOp2 mulD (mVar 4) (mVar 4)) (mVar 4)) (mVar 4)) (mVar 4)) (mC (.int 982451653))))
 (sSet 3 (mOp2 addD (mOp2 (intOp modI) (mOp2 mulD (mVar 0) (mC (.int 1583458089))) (mC (.int 2147483647))) (mOp2 mulD (mC (.int 2147483647)) (mVar 4))))))
 sNil))
 (sSeq (sSet 5 (mLst aNil))
 (sSeq (sClr [6, 3] (sFor (miL (mVar 1)) (.nm 6)
 (sSeq (sExpr (mBM isL lAppend (mVar 5) (aCons (mOp2 (intOp modI) (mVar 3) (mVar 6)) aNil)))
 (sClr [6] (sSet 3 (mOp2 (intOp fdivI) (mVar 3) (mVar 6)))))))
 (sRet (mVar 5))))))
def f_law_drawn : MFn := fnB 7 b_law_drawn
/-- 0 self, 1 many, 2 cells -/
def b_Rooms_init : MSt :=
 (sSeq (sFldS .many (mVar 0) (mVar 1))
 (sSeq (sFldS .cells (mVar 0) (mVar 2))
 (sFldS .inside (mVar 0) (mOp2 mulD (mLst (aCons (mC .non) aNil)) (mOp2 mulD (mVar 1) (mVar 2))))))
def f_Rooms_init : MFn := fnB 3 b_Rooms_init
/-- 0 _law_script, 1 _law_first, 2 _law_cells, 3 _law_many, 4 _law_rooms, 5 _law_inside, 6 _law_cell, 7 _law_parts, 8 _law_k, 9 _law_place -/
def b_law : MSt :=
 (sSeq (sSet 1 (mCall 2 f_law_cell_at (aCons (mVar 0) (aCons (mC (.int 0)) aNil))))
 (sSeq (sSet 2 (mLst (aCons (mOp2 addD (mC (.int 1)) (mOp2 (intOp modI) (mOp2 (intOp fdivI) (mVar 1) (mC (.int 2))) (mC (.int 16)))) (aCons (mOp2 addD (mC (.int 1)) (mOp2 (intOp modI) (mOp2 (intOp fdivI) (mVar 1) (mC (.int 32))) (mC (.int 16)))) aNil))))
 (sSeq (sSet 3 (mLst (aCons (mOp2 addD (mC (.int 1)) (mOp2 (intOp modI) (mOp2 (intOp fdivI) (mVar 1) (mC (.int 512))) (mC (.int 5)))) (aCons (mOp2 addD (mC (.int 1)) (mOp2 (intOp modI) (mOp2 (intOp fdivI) (mVar 1) (mC (.int 2560))) (mC (.int 5)))) aNil))))
 (sSeq (sSet 4 (mLst (aCons (mMake .Rooms 3 f_Rooms_init (aCons (mOp2 getI (mVar 3) (mC (.int 0))) (aCons (mOp2 getI (mVar 2) (mC (.int 0))) aNil))) (aCons (mMake .Rooms 3 f_Rooms_init (aCons (mOp2 getI (mVar 3) (mC (.int 1))) (aCons (mOp2 getI (mVar 2) (mC (.int 1))) aNil))) aNil))))
 (sSeq (sSet 5 (mLst (aCons (mOp2 mulD (mLst (aCons (mC .non) aNil)) (mOp2 mulD (mOp2 getI (mVar 3) (mC (.int 0))) (mOp2 getI (mVar 2) (mC (.int 0))))) (aCons (mOp2 mulD (mLst (aCons (mC .non) aNil)) (mOp2 mulD (mOp2 getI (mVar 3) (mC (.int 1))) (mOp2 getI (mVar 2) (mC (.int 1))))) aNil))))
 (sSeq (sClr [6, 7, 8] (sFor (miL (mSl' (mVar 0) (ptSome (mC (.int 1))) (ptSome (mC (.int 41))))) (.nm 6)
 (sSeq (sSet 7 (mCall 3 f_law_drawn (aCons (mVar 6) (aCons (mLst (aCons (mC (.int 2)) (aCons (mC (.int 4)) (aCons (mC (.int 80)) (aCons (mC (.int 9)) (aCons (mOp2 (intOp powI) (mC (.int 10)) (mC (.int 40))) (aCons (mC (.int 2)) aNil))))))) (aCons (mOp2 eqR (mOp2 (intOp modI) (mVar 1) (mC (.int 2))) (mC (.int 0))) aNil)))))
 (sSeq (sSet 8 (mOp2 getI (mVar 7) (mC (.int 0))))
 (sClr [6, 7, 8] (sIf (tNot' (mTest (mCall 4 f_law_done (aCons (mOp2 getI (mVar 4) (mVar 8)) (aCons (mOp2 getI (mVar 5) (mVar 8)) (aCons (mOp2 getI (mVar 2) (mVar 8)) (aCons (mSl' (mVar 7) (ptSome (mC (.int 1))) ptNone) aNil)))))))
 (sRet (mC (.bl false)))
 sNil))))))
 (sSeq (sClr [8] (sFor (miR1 (aCons (mC (.int 2)) aNil)) (.nm 8)
 (sClr [8] (sIf (mTest (mOp2 neR (mLc (miR1 (aCons (mCB cLen (aCons (mOp2 getI (mVar 5) (mVar 8)) aNil)) aNil)) (.nm 9) tYesM (mMeth .Rooms 2 f_Rooms_read (mOp2 getI (mVar 4) (mVar 8)) (aCons (mVar 9) aNil)) [9]) (mOp2 getI (mVar 5) (mVar 8))))
 (sRet (mC (.bl false)))
 sNil))))
 (sRet (mC (.bl true))))))))))
def f_law : MFn := fnB 10 b_law

end MP

set_option Elab.async false
set_option linter.all false
set_option maxRecDepth 100000
set_option maxHeartbeats 4000000
namespace MP
open PySem L2
/-! ### the built-in names that the text leaves alone -/
structure Blt (mg : Str → Option Value) : Prop where
  abs : mg "abs" = none
  enumerate : mg "enumerate" = none
  len : mg "len" = none
  range : mg "range" = none
section
variable {P : Program} {w : World} {K : PySem.W.Frag} {mg : Str → Option Value} {base : Heap} {G : Ga}
theorem sc_law_cell_at : FnScope ["_law_script", "_law_k"] ["_law_script", "_law_k"] (defScope st_law_cell_at) := ⟨rfl, rfl, rfl, by decide +kernel, rfl, by decide +kernel, by decide +kernel⟩
theorem ok_law_cell_at {f : Addr} {fd : FuncData} (F : Fun K "_law_cell_at" "_law_cell_at" st_law_cell_at f fd) (g : Gok K G) (B : Blt mg)  : FnOk P w K mg base (L2.CX P w) 1 f fd ["_law_script", "_law_k"] (SpM K G f_law_cell_at 2) :=
  mk_fn F sc_law_cell_at fun cdv A outer s H E d =>
 (ss_cons (s_if (t_cmp op_lt (s_cmpI (p := ltI)) (d_var 1) (d_callB cr_lenU s_len B.len (a_cons (d_var 0) a_nil)) (nomark _))
 (ss_one (s_ret (d_ix (d_var 0) (d_var 1))))
 ss_nil)
 (ss_one (s_ret d_int)))
theorem sc_law_run : FnScope ["_law_inside", "_law_cells", "_law_place", "_law_most", "_law_full", "_law_many"] ["_law_inside", "_law_cells", "_law_place", "_law_most", "_law_full"] (defScope st_law_run) := ⟨rfl, rfl, rfl, by decide +kernel, rfl, by decide +kernel, by decide +kernel⟩
theorem ok_law_run {f : Addr} {fd : FuncData} (F : Fun K "_law_run" "_law_run" st_law_run f fd) (g : Gok K G) (B : Blt mg)  : FnOk P w K mg base (L2.CX P w) 1 f fd ["_law_inside", "_law_cells", "_law_place", "_law_most", "_law_full"] (SpM K G f_law_run 5) :=
  mk_fn F sc_law_run fun cdv A outer s H E d =>
 (ss_cons (s_set d d_int)
 (ss_cons (s_while d (PW.pt (t_and (t_cmp op_lt (s_cmpI (p := ltI)) (d_var 5) (d_var 3) (nomark _)) (t_and (t_cmp op_lt (s_cmpI (p := ltI)) (d_bin op_addU s_add (d_var 2) (d_var 5)) (d_callB cr_lenU s_len B.len (a_cons (d_var 0) a_nil)) (nomark _)) (t_and1 (t_cmp (op_eqU d) s_eq (d_bin op_fdivW s_fdiv (d_bin op_addU s_add (d_var 2) (d_var 5)) (d_var 1)) (d_bin op_fdivW s_fdiv (d_var 2) (d_var 1)) (nomark _))))))
 (ss_cons (s_if (t_cmp (op_neU d) s_ne (d_cmp op_notN s_isNot (d_ix (d_var 0) (d_bin op_addU s_add (d_var 2) (d_var 5))) d_non (nomark _)) (d_var 4) (nomark _))
 (ss_one (s_ret (d_var 5)))
 ss_nil)
 (ss_one (s_set d (d_bin op_addU s_add (d_var 5) d_int)))))
 (ss_one (s_ret (d_var 5)))))
theorem sc_Rooms_fill_in : FnScope ["self", "place", "some", "at", "value"] ["self", "place", "some"] (defScope st_Rooms_fill_in) := ⟨rfl, rfl, rfl, by decide +kernel, rfl, by decide +kernel, by decide +kernel⟩
theorem ok_Rooms_fill_in {f : Addr} {fd : FuncData} (F : Fun K "fill_in" "Rooms.fill_in" st_Rooms_fill_in f fd) (g : Gok K G) (B : Blt mg)  : FnOk P w K mg base (L2.CX P w) 1 f fd ["self", "place", "some"] (SpM K G f_Rooms_fill_in 3) :=
  mk_fn F sc_Rooms_fill_in fun cdv A outer s H E d =>
 (ss_one (s_clr [3, 4] (s_for d (i_enum B.enumerate (a_cons (d_var 2) a_nil)) (g_tp d (gs_cons d (gs_cons d gs_nil)))
 (ss_one (s_clr [3, 4] (s_setL (d_fld .inside g (d_var 0)) (d_bin op_addU s_add (d_var 1) (d_var 3)) (d_var 4)))))))
theorem sc_Rooms_read : FnScope ["self", "place"] ["self", "place"] (defScope st_Rooms_read) := ⟨rfl, rfl, rfl, by decide +kernel, rfl, by decide +kernel, by decide +kernel⟩
theorem ok_Rooms_read {f : Addr} {fd : FuncData} (F : Fun K "read" "Rooms.read" st_Rooms_read f fd) (g : Gok K G) (B : Blt mg)  : FnOk P w K mg base (L2.CX P w) 1 f fd ["self", "place"] (SpM K G f_Rooms_read 2) :=
  mk_fn F sc_Rooms_read fun cdv A outer s H E d =>
 (ss_one (s_ret (d_ix (d_fld .inside g (d_var 0)) (d_var 1))))
theorem sc_Rooms_set_free : FnScope ["self", "place", "length", "at"] ["self", "place", "length"] (defScope st_Rooms_set_free) := ⟨rfl, rfl, rfl, by decide +kernel, rfl, by decide +kernel, by decide +kernel⟩
theorem ok_Rooms_set_free {f : Addr} {fd : FuncData} (F : Fun K "set_free" "Rooms.set_free" st_Rooms_set_free f fd) (g : Gok K G) (B : Blt mg)  : FnOk P w K mg base (L2.CX P w) 1 f fd ["self", "place", "length"] (SpM K G f_Rooms_set_free 3) :=
  mk_fn F sc_Rooms_set_free fun cdv A outer s H E d =>
 (ss_one (s_clr [3] (s_for d (i_rng1 B.range (a_cons (d_var 2) a_nil)) (g_nm d)
 (ss_one (s_clr [3] (s_setL (d_fld .inside g (d_var 0)) (d_bin op_addU s_add (d_var 1) (d_var 3)) d_non))))))
theorem sc_Rooms_write : FnScope ["self", "place", "value"] ["self", "place", "value"] (defScope st_Rooms_write) := ⟨rfl, rfl, rfl, by decide +kernel, rfl, by decide +kernel, by decide +kernel⟩
theorem ok_Rooms_write {f : Addr} {fd : FuncData} (F : Fun K "write" "Rooms.write" st_Rooms_write f fd) (g : Gok K G) (B : Blt mg)  : FnOk P w K mg base (L2.CX P w) 1 f fd ["self", "place", "value"] (SpM K G f_Rooms_write 3) :=
  mk_fn F sc_Rooms_write fun cdv A outer s H E d =>
 (ss_one (s_setL (d_fld .inside g (d_var 0)) (d_var 1) (d_var 2)))
theorem sc_law_done : FnScope ["_law_rooms", "_law_inside", "_law_cells", "_law_parts", "_law_way", "_law_at", "_law_length", "_law_number", "_law_sort", "_law_place", "_law_value", "_law_many", "_law_some", "_law_k"] ["_law_rooms", "_law_inside", "_law_cells", "_law_parts"] (defScope st_law_done) := ⟨rfl, rfl, rfl, by decide +kernel, rfl, by decide +kernel, by decide +kernel⟩
theorem ok_law_done {f : Addr} {fd : FuncData} (F : Fun K "_law_done" "_law_done" st_law_done f fd) (g : Gok K G) (B : Blt mg) (F_law_run : FnG P w K mg base G 1 "_law_run" f_law_run 5) (X_Rooms_fill_in : FnC P w K mg base G 1 .Rooms "fill_in" f_Rooms_fill_in 3) (X_Rooms_set_free : FnC P w K mg base G 1 .Rooms "set_free" f_Rooms_set_free 3) (X_Rooms_write : FnC P w K mg base G 1 .Rooms "write" f_Rooms_write 3) (X_Rooms_read : FnC P w K mg base G 1 .Rooms "read" f_Rooms_read 2) : FnOk P w K mg base (L2.CX P w) 2 f fd ["_law_rooms", "_law_inside", "_law_cells", "_law_parts"] (SpM K G f_law_done 4) :=
  mk_fn F sc_law_done fun cdv A outer s H E d =>
 (ss_cons (s_asg (d_var 3) (g_tp d (gs_cons d (gs_cons d (gs_cons d (gs_cons d (gs_cons d gs_nil)))))))
 (ss_cons (s_set d (d_bin op_mod s_mod (d_var 5) (d_callB cr_lenU s_len B.len (a_cons (d_var 1) a_nil))))
 (ss_cons (s_set d (d_ix (d_lst (a_cons (d_var 7) (a_cons (d_tup (a_cons d_str (a_cons (d_var 7) a_nil))) a_nil))) (d_var 8)))
 (ss_cons (s_clr [11, 12, 13] (s_if (PW.pt (t_and (t_cmp op_lt (s_cmpI (p := ltI)) (d_var 4) d_int (nomark _)) (t_and1 (t_cmp op_isN s_is (d_ix (d_var 1) (d_var 9)) d_non (nomark _)))))
 (ss_cons (s_set d (d_call F_law_run d (a_cons (d_var 1) (a_cons (d_var 2) (a_cons (d_var 9) (a_cons (d_bin op_addU s_add d_int (d_var 6)) (a_cons d_bl a_nil)))))))
 (ss_cons (s_set d (d_bin op_mulU s_mul (d_lst (a_cons (d_var 10) a_nil)) (d_var 11)))
 (ss_cons (s_expr (d_meth X_Rooms_fill_in g d (d_var 0) (a_cons (d_var 9) (a_cons (d_var 12) a_nil))))
 (ss_cons (s_expr (d_bm0 PySem.F.plainAttrs_list PySem.F.slot_list_clear PySem.F.type_list_clear mt_clear s_clear (fun _ _ _ _ _ em r h => tyL em r h) (d_var 12)))
 (ss_one (s_clr [13] (s_for d (i_rng1 B.range (a_cons (d_var 11) a_nil)) (g_nm d)
 (ss_one (s_clr [13] (s_setL (d_var 1) (d_bin op_addU s_add (d_var 9) (d_var 13)) (d_var 10)))))))))))
 (ss_one (s_clr [11, 13] (s_if (PW.pt (t_and (t_cmp (op_eqU d) s_eq (d_var 4) d_int (nomark _)) (t_and1 (t_cmp op_notN s_isNot (d_ix (d_var 1) (d_var 9)) d_non (nomark _)))))
 (ss_cons (s_set d (d_call F_law_run d (a_cons (d_var 1) (a_cons (d_var 2) (a_cons (d_var 9) (a_cons (d_bin op_addU s_add d_int (d_var 6)) (a_cons d_bl a_nil)))))))
 (ss_cons (s_expr (d_meth X_Rooms_set_free g d (d_var 0) (a_cons (d_var 9) (a_cons (d_var 11) a_nil))))
 (ss_one (s_clr [13] (s_for d (i_rng1 B.range (a_cons (d_var 11) a_nil)) (g_nm d)
 (ss_one (s_clr [13] (s_setL (d_var 1) (d_bin op_addU s_add (d_var 9) (d_var 13)) d_non))))))))
 (ss_one (s_if (t_cmp op_notN s_isNot (d_ix (d_var 1) (d_var 9)) d_non (nomark _))
 (ss_cons (s_expr (d_meth X_Rooms_write g d (d_var 0) (a_cons (d_var 9) (a_cons (d_var 10) a_nil))))
 (ss_one (s_setL (d_var 1) (d_var 9) (d_var 10))))
 ss_nil)))))))
 (ss_one (s_ret (d_cmp (op_eqU d) s_eq (d_meth X_Rooms_read g d (d_var 0) (a_cons (d_var 9) a_nil)) (d_ix (d_var 1) (d_var 9)) (nomark _))))))))
theorem sc_law_drawn : FnScope ["_law_cell", "_law_sizes", "_law_free", "_law_number", "_law_other", "_law_found", "_law_size"] ["_law_cell", "_law_sizes", "_law_free"] (defScope st_law_drawn) := ⟨rfl, rfl, rfl, by decide +kernel, rfl, by decide +kernel, by decide +kernel⟩
theorem ok_law_drawn {f : Addr} {fd : FuncData} (F : Fun K "_law_drawn" "_law_drawn" st_law_drawn f fd) (g : Gok K G) (B : Blt mg)  : FnOk P w K mg base (L2.CX P w) 1 f fd ["_law_cell", "_law_sizes", "_law_free"] (SpM K G f_law_drawn 3) :=
  mk_fn F sc_law_drawn fun cdv A outer s H E d =>
 (ss_cons (s_set d (d_callB call_abs s_abs B.abs (a_cons (d_var 0) a_nil)))
 (ss_cons (s_clr [4] (s_if (t_not (t_val (d_var 2)))
 (ss_cons (s_set d (d_bin op_mod s_mod (d_bin op_mulU s_mul (d_bin op_addU s_add (d_var 0) d_int) d_int) d_int))
 (ss_cons (s_set d (d_bin op_mulU s_mul (d_bin op_mulU s_mul (d_bin op_mulU s_mul (d_bin op_mulU s_mul (d_bin op_mulU s_mul (d_var 4) (d_var 4)) (d_var 4)) (d_var 4)) (d_var 4)) d_int))
 (ss_one (s_set d (d_bin op_addU s_add (d_bin op_mod s_mod (d_bin op_mulU s_mul (d_var 0) d_int) d_int) (d_bin op_mulU s_mul d_int (d_var 4)))))))
 ss_nil))
 (ss_cons (s_set d (d_lst a_nil))
 (ss_cons (s_clr [6, 3] (s_for d (i_list (d_var 1)) (g_nm d)
 (ss_cons (s_expr (d_bm PySem.F.plainAttrs_list PySem.F.slot_list_append PySem.F.type_list_append mt_append s_append (fun _ _ _ _ _ em r h => tyL em r h) (d_var 5) (a_cons (d_bin op_mod s_mod (d_var 3) (d_var 6)) a_nil)))
 (ss_one (s_clr [6] (s_set d (d_bin op_fdivW s_fdiv (d_var 3) (d_var 6))))))))
 (ss_one (s_ret (d_var 5)))))))
theorem sc_Rooms_init : FnScope ["self", "many", "cells"] ["self", "many", "cells"] (defScope st_Rooms_init) := ⟨rfl, rfl, rfl, by decide +kernel, rfl, by decide +kernel, by decide +kernel⟩
theorem ok_Rooms_init {f : Addr} {fd : FuncData} (F : Fun K "__init__" "Rooms.__init__" st_Rooms_init f fd) (g : Gok K G) (B : Blt mg)  : FnOk P w K mg base (L2.CX P w) 1 f fd ["self", "many", "cells"] (SpM K G f_Rooms_init 3) :=
  mk_fn F sc_Rooms_init fun cdv A outer s H E d =>
 (ss_cons (s_fld .many g (d_var 0) (d_var 1))
 (ss_cons (s_fld .cells g (d_var 0) (d_var 2))
 (ss_one (s_fld .inside g (d_var 0) (d_bin op_mulU s_mul (d_lst (a_cons d_non a_nil)) (d_bin op_mulU s_mul (d_var 1) (d_var 2)))))))
theorem sc_law : FnScope ["_law_script", "_law_first", "_law_cells", "_law_many", "_law_rooms", "_law_inside", "_law_cell", "_law_parts", "_law_k", "_law_place"] ["_law_script"] (defScope st_law) := ⟨rfl, rfl, rfl, by decide +kernel, rfl, by decide +kernel, by decide +kernel⟩
theorem ok_law {f : Addr} {fd : FuncData} (F : Fun K "law" "law" st_law f fd) (g : Gok K G) (B : Blt mg) (F_law_cell_at : FnG P w K mg base G 1 "_law_cell_at" f_law_cell_at 2) (M_Rooms : FnM P w K mg base G 1 .Rooms f_Rooms_init 3) (F_law_drawn : FnG P w K mg base G 1 "_law_drawn" f_law_drawn 3) (F_law_done : FnG P w K mg base G 2 "_law_done" f_law_done 4) (X_Rooms_read : FnC P w K mg base G 1 .Rooms "read" f_Rooms_read 2) : FnOk P w K mg base (L2.CX P w) 3 f fd ["_law_script"] (SpM K G f_law 1) :=
  mk_fn F sc_law fun cdv A outer s H E d =>
 (ss_cons (s_set d (d_call F_law_cell_at d (a_cons (d_var 0) (a_cons d_int a_nil))))
 (ss_cons (s_set d (d_lst (a_cons (d_bin op_addU s_add d_int (d_bin op_mod s_mod (d_bin op_fdivW s_fdiv (d_var 1) d_int) d_int)) (a_cons (d_bin op_addU s_add d_int (d_bin op_mod s_mod (d_bin op_fdivW s_fdiv (d_var 1) d_int) d_int)) a_nil))))
 (ss_cons (s_set d (d_lst (a_cons (d_bin op_addU s_add d_int (d_bin op_mod s_mod (d_bin op_fdivW s_fdiv (d_var 1) d_int) d_int)) (a_cons (d_bin op_addU s_add d_int (d_bin op_mod s_mod (d_bin op_fdivW s_fdiv (d_var 1) d_int) d_int)) a_nil))))
 (ss_cons (s_set d (d_lst (a_cons (d_make M_Rooms d (a_cons (d_ix (d_var 3) d_int) (a_cons (d_ix (d_var 2) d_int) a_nil))) (a_cons (d_make M_Rooms d (a_cons (d_ix (d_var 3) d_int) (a_cons (d_ix (d_var 2) d_int) a_nil))) a_nil))))
 (ss_cons (s_set d (d_lst (a_cons (d_bin op_mulU s_mul (d_lst (a_cons d_non a_nil)) (d_bin op_mulU s_mul (d_ix (d_var 3) d_int) (d_ix (d_var 2) d_int))) (a_cons (d_bin op_mulU s_mul (d_lst (a_cons d_non a_nil)) (d_bin op_mulU s_mul (d_ix (d_var 3) d_int) (d_ix (d_var 2) d_int))) a_nil))))
 (ss_cons (s_clr [6, 7, 8] (s_for d (i_list (d_sl (d_var 0) (p_some d_int) (p_some d_int))) (g_nm d)
 (ss_cons (s_set d (d_call F_law_drawn d (a_cons (d_var 6) (a_cons (d_lst (a_cons d_int (a_cons d_int (a_cons d_int (a_cons d_int (a_cons (d_bin op_pow s_pow d_int d_int) (a_cons d_int a_nil))))))) (a_cons (d_cmp (op_eqU d) s_eq (d_bin op_mod s_mod (d_var 1) d_int) d_int (nomark _)) a_nil)))))
 (ss_cons (s_set d (d_ix (d_var 7) d_int))
 (ss_one (s_clr [6, 7, 8] (s_if (t_not (t_val (d_call F_law_done d (a_cons (d_ix (d_var 4) (d_var 8)) (a_cons (d_ix (d_var 5) (d_var 8)) (a_cons (d_ix (d_var 2) (d_var 8)) (a_cons (d_sl (d_var 7) (p_some d_int) p_none) a_nil)))))))
 (ss_one (s_ret d_bl))
 ss_nil)))))))
 (ss_cons (s_clr [8] (s_for d (i_rng1 B.range (a_cons d_int a_nil)) (g_nm d)
 (ss_one (s_clr [8] (s_if (t_cmp (op_neU d) s_ne (d_lc (own := [("_law_place", 9)]) (t := (.nm 9)) d (i_rng1 B.range (a_cons (d_callB cr_lenU s_len B.len (a_cons (d_ix (d_var 5) (d_var 8)) a_nil)) a_nil)) (by rfl) (fun _ _ _ _ _ d => (g_nm d)) (fun _ _ _ _ _ d => ts_nil) (fun _ _ _ _ _ d => (d_meth X_Rooms_read g d (d_ix (d_var 4) (d_var 8)) (a_cons (d_var 9) a_nil)))) (d_ix (d_var 5) (d_var 8)) (nomark _))
 (ss_one (s_ret d_bl))
 ss_nil)))))
 (ss_one (s_ret d_bl)))))))))
end
def ga (aRooms : Addr) : Ga where
  cl := fun c => match c with
    | .Rooms => aRooms
    | _ => 0
  has := fun c => match c with
    | .Rooms => true
    | _ => false
  xc := fun _ => 0
theorem all_mk {l : PySem.W.OpenLaw} {w : World} {K : PySem.W.Frag} {h : Heap} {mg : Str → Option Value} {fa C_Rooms x_law_cell_at x_law_run x_Rooms_fill_in x_Rooms_read x_Rooms_set_free x_Rooms_write x_law_done x_law_drawn x_Rooms_init x_law : Addr} (X : K.In h) (Gn : h.Ns mainGlobals mg) (hfa : mg "law" = some (.ref fa))
    {od_law_cell_at an_law_cell_at od_law_run an_law_run od_Rooms_fill_in an_Rooms_fill_in od_Rooms_read an_Rooms_read od_Rooms_set_free an_Rooms_set_free od_Rooms_write an_Rooms_write od_law_done an_law_done od_law_drawn an_law_drawn od_Rooms_init an_Rooms_init od_law an_law : Option Addr} {sl_law_cell_at sl_law_run sl_Rooms_fill_in sl_Rooms_read sl_Rooms_set_free sl_Rooms_write sl_law_done sl_law_drawn sl_Rooms_init sl_law : Array (Option Value)} {oc_law_cell_at kV_law_cell_at dc_law_cell_at pm_law_cell_at cd_law_cell_at ct_law_cell_at oc_law_run kV_law_run dc_law_run pm_law_run cd_law_run ct_law_run oc_Rooms_fill_in kV_Rooms_fill_in dc_Rooms_fill_in pm_Rooms_fill_in cd_Rooms_fill_in ct_Rooms_fill_in oc_Rooms_read kV_Rooms_read dc_Rooms_read pm_Rooms_read cd_Rooms_read ct_Rooms_read oc_Rooms_set_free kV_Rooms_set_free dc_Rooms_set_free pm_Rooms_set_free cd_Rooms_set_free ct_Rooms_set_free oc_Rooms_write kV_Rooms_write dc_Rooms_write pm_Rooms_write cd_Rooms_write ct_Rooms_write oc_law_done kV_law_done dc_law_done pm_law_done cd_law_done ct_law_done oc_law_drawn kV_law_drawn dc_law_drawn pm_law_drawn cd_law_drawn ct_law_drawn oc_Rooms_init kV_Rooms_init dc_Rooms_init pm_Rooms_init cd_Rooms_init ct_Rooms_init oc_law kV_law dc_law pm_law cd_law ct_law : Value}
    (aC_Rooms : PySem.W.nsIn K mainGlobals "Rooms" = some (some (.ref C_Rooms)))
    (pg_Rooms : PySem.W.plainGet K C_Rooms Str.empty = true)
    (hd_Rooms : PySem.W.hasDictIn K C_Rooms = true)
    (po_Rooms : PySem.W.plainOver K C_Rooms = true)
    (sa_Rooms : PySem.W.findIn K (.ref C_Rooms) "__setattr__" = some (some (.builtin "object.__setattr__")))
    (mk_Rooms : PySem.W.makesIn K C_Rooms = true)
    (kc_Rooms : PySem.W.keepIn K (.ref C_Rooms) = true)
    (n_Rooms_many : PySem.W.findIn K (.ref C_Rooms) "many" = some none)
    (n_Rooms_cells : PySem.W.findIn K (.ref C_Rooms) "cells" = some none)
    (n_Rooms_inside : PySem.W.findIn K (.ref C_Rooms) "inside" = some none)
    (g_law_cell_at : PySem.W.nsIn K mainGlobals "_law_cell_at" = some (some (.ref x_law_cell_at)))
    (l_law_cell_at : K.lookup x_law_cell_at = some ⟨oc_law_cell_at, od_law_cell_at, .func (PySem.W.fnOf "_law_cell_at" "_law_cell_at" (defArgs st_law_cell_at) (defBody st_law_cell_at) (defScope st_law_cell_at) .none kV_law_cell_at dc_law_cell_at pm_law_cell_at an_law_cell_at cd_law_cell_at ct_law_cell_at), sl_law_cell_at⟩)
    (c_law_cell_at' : PySem.W.codeIn K cd_law_cell_at "_law_cell_at" = true)
    (k_law_cell_at : PySem.W.keepIn K (.ref x_law_cell_at) = true)
    (g_law_run : PySem.W.nsIn K mainGlobals "_law_run" = some (some (.ref x_law_run)))
    (l_law_run : K.lookup x_law_run = some ⟨oc_law_run, od_law_run, .func (PySem.W.fnOf "_law_run" "_law_run" (defArgs st_law_run) (defBody st_law_run) (defScope st_law_run) .none kV_law_run dc_law_run pm_law_run an_law_run cd_law_run ct_law_run), sl_law_run⟩)
    (c_law_run' : PySem.W.codeIn K cd_law_run "_law_run" = true)
    (k_law_run : PySem.W.keepIn K (.ref x_law_run) = true)
    (l_Rooms_fill_in : K.lookup x_Rooms_fill_in = some ⟨oc_Rooms_fill_in, od_Rooms_fill_in, .func (PySem.W.fnOf "fill_in" "Rooms.fill_in" (defArgs st_Rooms_fill_in) (defBody st_Rooms_fill_in) (defScope st_Rooms_fill_in) .none kV_Rooms_fill_in dc_Rooms_fill_in pm_Rooms_fill_in an_Rooms_fill_in cd_Rooms_fill_in ct_Rooms_fill_in), sl_Rooms_fill_in⟩)
    (c_Rooms_fill_in' : PySem.W.codeIn K cd_Rooms_fill_in "Rooms.fill_in" = true)
    (k_Rooms_fill_in : PySem.W.keepIn K (.ref x_Rooms_fill_in) = true)
    (i_Rooms_fill_in : PySem.W.isFn K (.ref x_Rooms_fill_in) = true)
    (l_Rooms_read : K.lookup x_Rooms_read = some ⟨oc_Rooms_read, od_Rooms_read, .func (PySem.W.fnOf "read" "Rooms.read" (defArgs st_Rooms_read) (defBody st_Rooms_read) (defScope st_Rooms_read) .none kV_Rooms_read dc_Rooms_read pm_Rooms_read an_Rooms_read cd_Rooms_read ct_Rooms_read), sl_Rooms_read⟩)
    (c_Rooms_read' : PySem.W.codeIn K cd_Rooms_read "Rooms.read" = true)
    (k_Rooms_read : PySem.W.keepIn K (.ref x_Rooms_read) = true)
    (i_Rooms_read : PySem.W.isFn K (.ref x_Rooms_read) = true)
    (l_Rooms_set_free : K.lookup x_Rooms_set_free = some ⟨oc_Rooms_set_free, od_Rooms_set_free, .func (PySem.W.fnOf "set_free" "Rooms.set_free" (defArgs st_Rooms_set_free) (defBody st_Rooms_set_free) (defScope st_Rooms_set_free) .none kV_Rooms_set_free dc_Rooms_set_free pm_Rooms_set_free an_Rooms_set_free cd_Rooms_set_free ct_Rooms_set_free), sl_Rooms_set_free⟩)
    (c_Rooms_set_free' : PySem.W.codeIn K cd_Rooms_set_free "Rooms.set_free" = true)
    (k_Rooms_set_free : PySem.W.keepIn K (.ref x_Rooms_set_free) = true)
    (i_Rooms_set_free : PySem.W.isFn K (.ref x_Rooms_set_free) = true)
    (l_Rooms_write : K.lookup x_Rooms_write = some ⟨oc_Rooms_write, od_Rooms_write, .func (PySem.W.fnOf "write" "Rooms.write" (defArgs st_Rooms_write) (defBody st_Rooms_write) (defScope st_Rooms_write) .none kV_Rooms_write dc_Rooms_write pm_Rooms_write an_Rooms_write cd_Rooms_write ct_Rooms_write), sl_Rooms_write⟩)
    (c_Rooms_write' : PySem.W.codeIn K cd_Rooms_write "Rooms.write" = true)
    (k_Rooms_write : PySem.W.keepIn K (.ref x_Rooms_write) = true)
    (i_Rooms_write : PySem.W.isFn K (.ref x_Rooms_write) = true)
    (g_law_done : PySem.W.nsIn K mainGlobals "_law_done" = some (some (.ref x_law_done)))
    (l_law_done : K.lookup x_law_done = some ⟨oc_law_done, od_law_done, .func (PySem.W.fnOf "_law_done" "_law_done" (defArgs st_law_done) (defBody st_law_done) (defScope st_law_done) .none kV_law_done dc_law_done pm_law_done an_law_done cd_law_done ct_law_done), sl_law_done⟩)
    (c_law_done' : PySem.W.codeIn K cd_law_done "_law_done" = true)
    (k_law_done : PySem.W.keepIn K (.ref x_law_done) = true)
    (g_law_drawn : PySem.W.nsIn K mainGlobals "_law_drawn" = some (some (.ref x_law_drawn)))
    (l_law_drawn : K.lookup x_law_drawn = some ⟨oc_law_drawn, od_law_drawn, .func (PySem.W.fnOf "_law_drawn" "_law_drawn" (defArgs st_law_drawn) (defBody st_law_drawn) (defScope st_law_drawn) .none kV_law_drawn dc_law_drawn pm_law_drawn an_law_drawn cd_law_drawn ct_law_drawn), sl_law_drawn⟩)
    (c_law_drawn' : PySem.W.codeIn K cd_law_drawn "_law_drawn" = true)
    (k_law_drawn : PySem.W.keepIn K (.ref x_law_drawn) = true)
    (l_Rooms_init : K.lookup x_Rooms_init = some ⟨oc_Rooms_init, od_Rooms_init, .func (PySem.W.fnOf "__init__" "Rooms.__init__" (defArgs st_Rooms_init) (defBody st_Rooms_init) (defScope st_Rooms_init) .none kV_Rooms_init dc_Rooms_init pm_Rooms_init an_Rooms_init cd_Rooms_init ct_Rooms_init), sl_Rooms_init⟩)
    (c_Rooms_init' : PySem.W.codeIn K cd_Rooms_init "Rooms.__init__" = true)
    (k_Rooms_init : PySem.W.keepIn K (.ref x_Rooms_init) = true)
    (i_Rooms_init : PySem.W.isFn K (.ref x_Rooms_init) = true)
    (g_law : PySem.W.nsIn K mainGlobals "law" = some (some (.ref x_law)))
    (l_law : K.lookup x_law = some ⟨oc_law, od_law, .func (PySem.W.fnOf "law" "law" (defArgs st_law) (defBody st_law) (defScope st_law) .none kV_law dc_law pm_law an_law cd_law ct_law), sl_law⟩)
    (c_law' : PySem.W.codeIn K cd_law "law" = true)
    (k_law : PySem.W.keepIn K (.ref x_law) = true)
    (f_Rooms_init' : PySem.W.findIn K (.ref C_Rooms) "__init__" = some (some (.ref x_Rooms_init)))
    (f_Rooms_fill_in' : PySem.W.findIn K (.ref C_Rooms) "fill_in" = some (some (.ref x_Rooms_fill_in)))
    (f_Rooms_read' : PySem.W.findIn K (.ref C_Rooms) "read" = some (some (.ref x_Rooms_read)))
    (f_Rooms_set_free' : PySem.W.findIn K (.ref C_Rooms) "set_free" = some (some (.ref x_Rooms_set_free)))
    (f_Rooms_write' : PySem.W.findIn K (.ref C_Rooms) "write" = some (some (.ref x_Rooms_write)))
    (z_abs : PySem.W.nsIn K mainGlobals "abs" = some none)
    (z_enumerate : PySem.W.nsIn K mainGlobals "enumerate" = some none)
    (z_len : PySem.W.nsIn K mainGlobals "len" = some none)
    (z_range : PySem.W.nsIn K mainGlobals "range" = some none)
    (hlaw : ∀ ns : List Int, ns.length ≤ 63 → (∀ z ∈ ns, Builtin.Int.intBits z ≤ 1048576) → ∃ S', f_law [.loc 0] (scriptS ns) = .ok (.bl true) S') :
    ∃ (fd : FuncData) (G : Ga), (∀ (s : Shared) (v : Value), BindsTo s fd ⟨[v], []⟩ [("_law_script", v)]) ∧ ∀ base : Heap, K.In base → base.Ns mainGlobals mg → FnOk l.prog w K mg base (L2.CX l.prog w) 3 fa fd ["_law_script"] (SpM K G f_law 1) := by
  have e := hfa.symm.trans (PySem.W.mg_of X Gn g_law)
  cases e
  have g : Gok K (ga C_Rooms) := by
    refine ⟨fun c hc => ?_, fun c f hc hf => ?_⟩
    · cases c <;> first | exact absurd (show false = true from hc) Bool.false_ne_true | skip
      · exact ⟨pg_Rooms, hd_Rooms, po_Rooms, sa_Rooms⟩
    · cases c <;> (first | exact absurd (show false = true from hc) Bool.false_ne_true | skip) <;> cases f <;> first | exact absurd (show false = true from hf) Bool.false_ne_true | exact n_Rooms_many | exact n_Rooms_cells | exact n_Rooms_inside
  have B : Blt mg := ⟨PySem.W.mg_none_of X Gn z_abs, PySem.W.mg_none_of X Gn z_enumerate, PySem.W.mg_none_of X Gn z_len, PySem.W.mg_none_of X Gn z_range⟩
  have F'law_cell_at := fun_mk (st := st_law_cell_at) l_law_cell_at c_law_cell_at' k_law_cell_at
  have b'law_cell_at := F'law_cell_at.binds (ps := ["_law_script", "_law_k"]) fun _ _ _ _ _ _ us hl => match us, hl with | [_, _], _ => rfl
  have F'law_run := fun_mk (st := st_law_run) l_law_run c_law_run' k_law_run
  have b'law_run := F'law_run.binds (ps := ["_law_inside", "_law_cells", "_law_place", "_law_most", "_law_full"]) fun _ _ _ _ _ _ us hl => match us, hl with | [_, _, _, _, _], _ => rfl
  have F'Rooms_fill_in := fun_mk (st := st_Rooms_fill_in) l_Rooms_fill_in c_Rooms_fill_in' k_Rooms_fill_in
  have b'Rooms_fill_in := F'Rooms_fill_in.binds (ps := ["self", "place", "some"]) fun _ _ _ _ _ _ us hl => match us, hl with | [_, _, _], _ => rfl
  have F'Rooms_read := fun_mk (st := st_Rooms_read) l_Rooms_read c_Rooms_read' k_Rooms_read
  have b'Rooms_read := F'Rooms_read.binds (ps := ["self", "place"]) fun _ _ _ _ _ _ us hl => match us, hl with | [_, _], _ => rfl
  have F'Rooms_set_free := fun_mk (st := st_Rooms_set_free) l_Rooms_set_free c_Rooms_set_free' k_Rooms_set_free
  have b'Rooms_set_free := F'Rooms_set_free.binds (ps := ["self", "place", "length"]) fun _ _ _ _ _ _ us hl => match us, hl with | [_, _, _], _ => rfl
  have F'Rooms_write := fun_mk (st := st_Rooms_write) l_Rooms_write c_Rooms_write' k_Rooms_write
  have b'Rooms_write := F'Rooms_write.binds (ps := ["self", "place", "value"]) fun _ _ _ _ _ _ us hl => match us, hl with | [_, _, _], _ => rfl
  have F'law_done := fun_mk (st := st_law_done) l_law_done c_law_done' k_law_done
  have b'law_done := F'law_done.binds (ps := ["_law_rooms", "_law_inside", "_law_cells", "_law_parts"]) fun _ _ _ _ _ _ us hl => match us, hl with | [_, _, _, _], _ => rfl
  have F'law_drawn := fun_mk (st := st_law_drawn) l_law_drawn c_law_drawn' k_law_drawn
  have b'law_drawn := F'law_drawn.binds (ps := ["_law_cell", "_law_sizes", "_law_free"]) fun _ _ _ _ _ _ us hl => match us, hl with | [_, _, _], _ => rfl
  have F'Rooms_init := fun_mk (st := st_Rooms_init) l_Rooms_init c_Rooms_init' k_Rooms_init
  have b'Rooms_init := F'Rooms_init.binds (ps := ["self", "many", "cells"]) fun _ _ _ _ _ _ us hl => match us, hl with | [_, _, _], _ => rfl
  have F'law := fun_mk (st := st_law) l_law c_law' k_law
  refine ⟨PySem.W.fnOf "law" "law" (defArgs st_law) (defBody st_law) (defScope st_law) .none kV_law dc_law pm_law an_law cd_law ct_law, ga C_Rooms, fun s v => .of_eq rfl, fun base _ _ => ?_⟩
  have ok'law_cell_at := ok_law_cell_at (P := l.prog) (w := w) (base := base) F'law_cell_at g B 
  have ok'law_run := ok_law_run (P := l.prog) (w := w) (base := base) F'law_run g B 
  have ok'Rooms_fill_in := ok_Rooms_fill_in (P := l.prog) (w := w) (base := base) F'Rooms_fill_in g B 
  have ok'Rooms_read := ok_Rooms_read (P := l.prog) (w := w) (base := base) F'Rooms_read g B 
  have ok'Rooms_set_free := ok_Rooms_set_free (P := l.prog) (w := w) (base := base) F'Rooms_set_free g B 
  have ok'Rooms_write := ok_Rooms_write (P := l.prog) (w := w) (base := base) F'Rooms_write g B 
  have F_law_run : FnG l.prog w K mg base (ga C_Rooms) 1 "_law_run" f_law_run 5 := ⟨_, _, _, ok'law_run, PySem.W.mg_of X Gn g_law_run, k_law_run, b'law_run⟩
  have X_Rooms_fill_in : FnC l.prog w K mg base (ga C_Rooms) 1 .Rooms "fill_in" f_Rooms_fill_in 3 := ⟨_, _, _, ok'Rooms_fill_in, ⟨f_Rooms_fill_in', i_Rooms_fill_in, k_Rooms_fill_in⟩, b'Rooms_fill_in, rfl⟩
  have X_Rooms_set_free : FnC l.prog w K mg base (ga C_Rooms) 1 .Rooms "set_free" f_Rooms_set_free 3 := ⟨_, _, _, ok'Rooms_set_free, ⟨f_Rooms_set_free', i_Rooms_set_free, k_Rooms_set_free⟩, b'Rooms_set_free, rfl⟩
  have X_Rooms_write : FnC l.prog w K mg base (ga C_Rooms) 1 .Rooms "write" f_Rooms_write 3 := ⟨_, _, _, ok'Rooms_write, ⟨f_Rooms_write', i_Rooms_write, k_Rooms_write⟩, b'Rooms_write, rfl⟩
  have X_Rooms_read : FnC l.prog w K mg base (ga C_Rooms) 1 .Rooms "read" f_Rooms_read 2 := ⟨_, _, _, ok'Rooms_read, ⟨f_Rooms_read', i_Rooms_read, k_Rooms_read⟩, b'Rooms_read, rfl⟩
  have ok'law_done := ok_law_done (P := l.prog) (w := w) (base := base) F'law_done g B F_law_run X_Rooms_fill_in X_Rooms_set_free X_Rooms_write X_Rooms_read
  have ok'law_drawn := ok_law_drawn (P := l.prog) (w := w) (base := base) F'law_drawn g B 
  have ok'Rooms_init := ok_Rooms_init (P := l.prog) (w := w) (base := base) F'Rooms_init g B 
  have F_law_cell_at : FnG l.prog w K mg base (ga C_Rooms) 1 "_law_cell_at" f_law_cell_at 2 := ⟨_, _, _, ok'law_cell_at, PySem.W.mg_of X Gn g_law_cell_at, k_law_cell_at, b'law_cell_at⟩
  have M_Rooms : FnM l.prog w K mg base (ga C_Rooms) 1 .Rooms f_Rooms_init 3 := ⟨_, _, _, ok'Rooms_init, ⟨mk_Rooms, f_Rooms_init', i_Rooms_init, kc_Rooms⟩, PySem.W.mg_of X Gn aC_Rooms, b'Rooms_init, rfl⟩
  have F_law_drawn : FnG l.prog w K mg base (ga C_Rooms) 1 "_law_drawn" f_law_drawn 3 := ⟨_, _, _, ok'law_drawn, PySem.W.mg_of X Gn g_law_drawn, k_law_drawn, b'law_drawn⟩
  have F_law_done : FnG l.prog w K mg base (ga C_Rooms) 2 "_law_done" f_law_done 4 := ⟨_, _, _, ok'law_done, PySem.W.mg_of X Gn g_law_done, k_law_done, b'law_done⟩
  have ok'law := ok_law (P := l.prog) (w := w) (base := base) F'law g B F_law_cell_at M_Rooms F_law_drawn F_law_done X_Rooms_read
  exact ok'law
theorem walk {l : PySem.W.OpenLaw} {q : Program} {loose : List Str} {XP : (Str → Option Value) → Heap → Prop} {YP : World → Heap → Prop} {d : DefRec} {K : Params → PySem.W.Frag} (hn : l.most = some 63) (hdf : d.params.defaults = [])
    (hlaw : ∀ ns : List Int, ns.length ≤ 63 → (∀ z ∈ ns, Builtin.Int.intBits z ≤ 1048576) → ∃ S', f_law [.loc 0] (scriptS ns) = .ok (.bl true) S')
    (hY : ∀ (w : World) (h : Heap), YP w h → (K w.params).In h)
    (F : ∀ (w : World) (mg : Str → Option Value) (fa : Addr) (h : Heap), (K w.params).In h → h.Ns mainGlobals mg → mg d.name = some (.ref fa) →
      ∃ (fd : FuncData) (G : Ga), (∀ (s : Shared) (u : Value), BindsTo s fd ⟨[u], []⟩ [("_law_script", u)]) ∧ ∀ base : Heap, (K w.params).In base → base.Ns mainGlobals mg → FnOk l.prog w (K w.params) mg base (L2.CX l.prog w) 3 fa fd ["_law_script"] (SpM (K w.params) G f_law 1)) :
    PySem.W.WalkO q loose XP YP l.row.toRowW d [] (fun f vs => PySem.call f vs) :=
  L2.walk_ofB (n := 63) (k := 3) (x := "_law_script") (CX := fun w => L2.CX l.prog w) (sp := fun w vs H Q E => ∀ G : Ga, SpM (K w.params) G f_law 1 vs H Q E) hn (by decide) hdf ⟨rfl, by decide, by decide⟩ hY
    (fun w mg fa h h1 h2 h3 => let ⟨fd, G, a, b⟩ := F w mg fa h h1 h2 h3; ⟨fd, a, fun base h4 h5 => (b base h4 h5).imp fun _ _ _ _ z => z G⟩)
    (fun w H a ns hl hb hO hS G => sp_law hO hS (hlaw ns hl hb)) fun _ H s e s' ⟨_, _, _, _, _, _, _, _, _, _, _, _, z⟩ => z
end MP

set_option Elab.async false
set_option linter.all false
set_option maxRecDepth 100000
set_option maxHeartbeats 4000000
namespace MP
open PySem L2
structure DrawSt where
  n : Int
  acc : List D
theorem digits_fold (l : Nat) : ∀ (sz : List Int) (a : DrawSt), (sz.map D.int).foldl (fun (a : DrawSt) x => match x with | .int s => ⟨a.n / s, a.acc ++ [.int (a.n % s)]⟩ | _ => a) a = ⟨sz.foldl (fun n s => n / s) a.n, a.acc ++ (digits a.n sz).map D.int⟩
  | [], a => by simp [digits]
  | s :: ss, a => by
    rw [List.map_cons, List.foldl_cons, digits_fold l ss]
    simp [digits]
theorem drawn_loop {S : Sto} {l : Nat} {sz : List Int} {fz : Bool} (hl : S[l]? = some (.lst fz (sz.map .int))) (hsz : ∀ s ∈ sz, 0 < s ∧ s.natAbs < 2 ^ 1000) (hn : sz.length ≤ 1000) (c n : Int) (fr : Bool) :
    forGo ⟨lstGet l, (sz.map D.int).length + 1⟩ (.nm 6) (sSeq (sExpr (mBM isL lAppend (mVar 5) (aCons (mOp2 (intOp modI) (mVar 3) (mVar 6)) aNil))) (sClr [6] (sSet 3 (mOp2 (intOp fdivI) (mVar 3) (mVar 6))))) ((sz.map D.int).length + 1) 0
      [some (.int c), some (.loc l), some (.bl fr), some (.int n), none, some (.loc S.length), none] (S ++ [.lst false []]) =
    .nx [some (.int c), some (.loc l), some (.bl fr), some (.int (sz.foldl (fun n s => n / s) n)), none, some (.loc S.length), none] (S ++ [.lst false ((digits n sz).map .int)]) := by
  have key := forGo_ind (it := ⟨lstGet l, (sz.map D.int).length + 1⟩) (t := .nm 6) (b := sSeq (sExpr (mBM isL lAppend (mVar 5) (aCons (mOp2 (intOp modI) (mVar 3) (mVar 6)) aNil))) (sClr [6] (sSet 3 (mOp2 (intOp fdivI) (mVar 3) (mVar 6))))) (sz.map D.int)
    (fun i ρ S' => ρ = [some (.int c), some (.loc l), some (.bl fr), some (.int ((sz.take i).foldl (fun n s => n / s) n)), none, some (.loc S.length), none] ∧ S' = S ++ [.lst false ((digits n (sz.take i)).map .int)])
    (fun r => r = .nx [some (.int c), some (.loc l), some (.bl fr), some (.int (sz.foldl (fun n s => n / s) n)), none, some (.loc S.length), none] (S ++ [.lst false ((digits n sz).map .int)])) ?_ ?_ ?_ ((sz.map D.int).length + 1) 0 _ _ (by omega) (Nat.zero_le _) ⟨rfl, rfl⟩
  · exact key
  · rintro i ρ S' hi ⟨rfl, rfl⟩
    exact lstGet_ok (get_app hl) i
  · rintro i x ρ S' e ⟨rfl, rfl⟩
    rw [List.getElem?_map] at e
    obtain ⟨s, es, rfl⟩ := Option.map_eq_some_iff.mp e
    obtain ⟨h0, hb⟩ := hsz s (List.mem_of_getElem? es)
    have e3 : sz.take (i + 1) = sz.take i ++ [s] := by rw [List.take_add_one, es]; rfl
    have dig : ∀ (l1 : List Int) (n : Int) (s : Int), digits n (l1 ++ [s]) = digits n l1 ++ [(l1.foldl (fun n s => n / s) n) % s] := by
      intro l1
      induction l1 with
      | nil => intro n s; rfl
      | cons a l1 ih => intro n s; simp [digits, ih]
    have hlen : ((digits n (sz.take i)).map D.int).length ≤ 100000 := by
      have : ∀ (l1 : List Int) (n : Int), (digits n l1).length = l1.length := by
        intro l1
        induction l1 with
        | nil => intro n; rfl
        | cons a l1 ih => intro n; simp [digits, ih]
      rw [List.length_map, this, List.length_take]
      omega
    refine ⟨_, rfl, ?_⟩
    simp -implicitDefEqProofs only [r_var, kVar_ok, r_c, r_op2, kOpA_ok, kOpA_exc, kOpB_ok, kOpB_exc, r_test, r_asB, r_and, r_or, r_not, kAnd_t, kAnd_f, kAnd_exc, kOr_t, kOr_f, kOr_exc, kNot_ok, kNot_exc, r_mand, r_mor, r_mnot, kMAnd_t, kMAnd_f, kMOr_t, kMOr_f, kMNot_ok, r_ife, kIfE_t, kIfE_f, kIfE_exc,
  r_anil, r_acons, kArg_ok, kArg_exc, kArgs_ok, kArgs_exc, r_tup, r_lst, r_fld, r_call, kCall_ok, kCall_exc, r_call0, noX_ok, r_meth, kM1_ok, kM1_exc, kM2_ok, kM2_stuck, kM3_ok, kM3_exc, r_meth0, kN1_ok, kN1_exc, kN2_ok, kN2_stuck, r_make, kMake_ok, mkEnd_ok, r_cb, r_isi, r_bm, kBM1_ok, kBM2_ok, r_alt, kAlt_ok, kAlt_exc, kAlt_stuck,
  r_sl, kSl1_ok, kSl2_ok, kSl3_ok, r_ptN, r_ptS, optI_ok, r_nil, r_seq, kSeq_nx, kSeq_rt, kSeq_xc, kSeq_bk, kSeq_ct, r_clr, kClr_nx, kClr_rt, kClr_xc, kClr_bk, kClr_ct, clr_nil, clr_cons, r_set, kSet_ok, kSet_exc, r_expr, kExpr_ok, kExpr_exc, r_ret, kRet_ok, kRet_exc, r_retN, r_if, kSIf_t, kSIf_f, kSIf_exc, r_brk, r_cont, r_for, kFor_ok,
  kItA_ok, kIt_some, r_itL, r_itT, r_itS, r_itR1, r_itR2, r_itEn, r_asg, kAsg_ok, sTgO_some, tgM_nm, setAllM_nil, setAllM_cons, r_aug, kAug1_ok, kAug2_ok, r_fs, kFS1_ok, kFS2_ok, nxO_some, r_sl1, kSL1_ok, kSL2_ok, kSL3_ok, r_fnB, kFn_nx, kFn_rt, kFn_xc, r_lc, kLc_ok, r_yes, r_tgtp, kTg_ok, r_items, r_itemsT, kItems_ok, r_self, kSelf_ok, r_isiR, kIsi_ok, r_ty, kTy_l, r_getF, kGetF_ok, kLk_ok, lk_yes, r_setF, r_itLl, kItL_ok, r_isL, kIsL_ok, r_lApp, kApp_ok, r_getI, kGetI_ok, r_getIT, r_setI, kSetI_ok, kStO_ok, r_while, r_bm0, kBM0_ok, r_lClear, kClear_ok, r_len, kLen_ok, len_tup, r_sl4, kSl4_ok, stepQ_nx, stepQ_ct, stepQ_bk, stepQ_rt, stepQ_xc,
  Res.bind_ok, Res.bind_exc, Res.bind_stuck,
  List.map_cons, List.map_nil, List.length_cons, List.length_nil, List.replicate_succ, List.replicate_zero, List.cons_append, List.nil_append, List.append_nil, List.set_cons_succ, List.set_cons_zero, List.getElem?_cons_succ, List.getElem?_cons_zero,
  Nat.reduceAdd, Nat.reduceSub, Nat.zero_add, Nat.sub_self, Bool.not_true, Bool.not_false, eq_self_iff_true, isL_ok (get_last S _), mod_int h0, lAppend_ok (get_last S _) hlen, set_last, fdiv_int h0 (log2_lt h0 hb (by decide))]
    rw [e3]
    simp only [List.foldl_append, List.foldl_cons, List.foldl_nil, dig, List.map_append, List.map_cons, List.map_nil, and_self]
  · rintro ρ S' ⟨rfl, rfl⟩
    simp only [List.length_map, List.take_length]
theorem mix_run {c : Int} {n : Nat} (hc : c.natAbs < 2 ^ n) (hn : n ≤ 2000000) (S : Sto) :
    mulD (.int (c + 7)) (.int 69621) S = .ok (.int ((c + 7) * 69621)) S ∧ mulD (.int c) (.int 1583458089) S = .ok (.int (c * 1583458089)) S := by
  refine ⟨mul_int (a := n + 3 + 1) (b := 17) (add_lt_pow (Nat.lt_of_lt_of_le hc (Nat.pow_le_pow_right (by decide) (by omega))) ?_) (by decide) (by omega), mul_int (a := n) (b := 31) hc (by decide) (by omega)⟩
  have : 2 ^ 3 ≤ 2 ^ (n + 3) := Nat.pow_le_pow_right (by decide) (by omega)
  show 7 < _
  omega
theorem law_drawn_spec {S : Sto} {l : Nat} {sz : List Int} {fz : Bool} (hl : S[l]? = some (.lst fz (sz.map .int))) (hsz : ∀ s ∈ sz, 0 < s ∧ s.natAbs < 2 ^ 1000) (hn : sz.length ≤ 1000) {c : Int} (hb : c.natAbs < 2 ^ 1048576) (fr : Bool) :
    f_law_drawn [.int c, .loc l, .bl fr] S = .ok (.loc S.length) (S ++ [.lst false ((digits (drawNum c fr) sz).map .int)]) := by
  have m1 := fun S => (mix_run hb (by decide) S).1
  have m2 := fun S => (mix_run hb (by decide) S).2
  have hl2 : (S ++ [O.lst false []])[l]? = some (.lst fz (sz.map .int)) := get_app hl
  obtain ⟨o, ho⟩ : ∃ o, o = (c + 7) * 69621 % 2147483629 := ⟨_, rfl⟩
  have o0 : 0 ≤ o := by rw [ho]; exact Int.emod_nonneg _ (by decide)
  have o1 : o.natAbs < 2 ^ 31 := abs_lt_pow o0 (by have : o < 2147483629 := by rw [ho]; exact Int.emod_lt_of_pos _ (by decide)
                                                   omega)
  have p2 := mul_lt_pow o1 o1
  have p3 := mul_lt_pow p2 o1
  have p4 := mul_lt_pow p3 o1
  have p5 := mul_lt_pow p4 o1
  have c9 : (982451653 : Int).natAbs < 2 ^ 30 := by decide
  have p6 := mul_lt_pow p5 c9
  have c2 : (2147483647 : Int).natAbs < 2 ^ 31 := by decide
  cases fr with
  | true =>
    unfold f_law_drawn b_law_drawn
    simp -implicitDefEqProofs only [r_var, kVar_ok, r_c, r_op2, kOpA_ok, kOpA_exc, kOpB_ok, kOpB_exc, r_test, r_asB, r_and, r_or, r_not, kAnd_t, kAnd_f, kAnd_exc, kOr_t, kOr_f, kOr_exc, kNot_ok, kNot_exc, r_mand, r_mor, r_mnot, kMAnd_t, kMAnd_f, kMOr_t, kMOr_f, kMNot_ok, r_ife, kIfE_t, kIfE_f, kIfE_exc,
  r_anil, r_acons, kArg_ok, kArg_exc, kArgs_ok, kArgs_exc, r_tup, r_lst, r_fld, r_call, kCall_ok, kCall_exc, r_call0, noX_ok, r_meth, kM1_ok, kM1_exc, kM2_ok, kM2_stuck, kM3_ok, kM3_exc, r_meth0, kN1_ok, kN1_exc, kN2_ok, kN2_stuck, r_make, kMake_ok, mkEnd_ok, r_cb, r_isi, r_bm, kBM1_ok, kBM2_ok, r_alt, kAlt_ok, kAlt_exc, kAlt_stuck,
  r_sl, kSl1_ok, kSl2_ok, kSl3_ok, r_ptN, r_ptS, optI_ok, r_nil, r_seq, kSeq_nx, kSeq_rt, kSeq_xc, kSeq_bk, kSeq_ct, r_clr, kClr_nx, kClr_rt, kClr_xc, kClr_bk, kClr_ct, clr_nil, clr_cons, r_set, kSet_ok, kSet_exc, r_expr, kExpr_ok, kExpr_exc, r_ret, kRet_ok, kRet_exc, r_retN, r_if, kSIf_t, kSIf_f, kSIf_exc, r_brk, r_cont, r_for, kFor_ok,
  kItA_ok, kIt_some, r_itL, r_itT, r_itS, r_itR1, r_itR2, r_itEn, r_asg, kAsg_ok, sTgO_some, tgM_nm, setAllM_nil, setAllM_cons, r_aug, kAug1_ok, kAug2_ok, r_fs, kFS1_ok, kFS2_ok, nxO_some, r_sl1, kSL1_ok, kSL2_ok, kSL3_ok, r_fnB, kFn_nx, kFn_rt, kFn_xc, r_lc, kLc_ok, r_yes, r_tgtp, kTg_ok, r_items, r_itemsT, kItems_ok, r_self, kSelf_ok, r_isiR, kIsi_ok, r_ty, kTy_l, r_getF, kGetF_ok, kLk_ok, lk_yes, r_setF, r_itLl, kItL_ok, r_isL, kIsL_ok, r_lApp, kApp_ok, r_getI, kGetI_ok, r_getIT, r_setI, kSetI_ok, kStO_ok, r_while, r_bm0, kBM0_ok, r_lClear, kClear_ok, r_len, kLen_ok, len_tup, r_sl4, kSl4_ok, stepQ_nx, stepQ_ct, stepQ_bk, stepQ_rt, stepQ_xc,
  Res.bind_ok, Res.bind_exc, Res.bind_stuck,
  List.map_cons, List.map_nil, List.length_cons, List.length_nil, List.replicate_succ, List.replicate_zero, List.cons_append, List.nil_append, List.append_nil, List.set_cons_succ, List.set_cons_zero, List.getElem?_cons_succ, List.getElem?_cons_zero,
  Nat.reduceAdd, Nat.reduceSub, Nat.zero_add, Nat.sub_self, Bool.not_true, Bool.not_false, eq_self_iff_true, cAbs_int, lstD_ok, le_line, itL_ok hl2, drawn_loop hl hsz hn, Nat.zero_le]
    rfl
  | false =>
    unfold f_law_drawn b_law_drawn
    simp -implicitDefEqProofs only [r_var, kVar_ok, r_c, r_op2, kOpA_ok, kOpA_exc, kOpB_ok, kOpB_exc, r_test, r_asB, r_and, r_or, r_not, kAnd_t, kAnd_f, kAnd_exc, kOr_t, kOr_f, kOr_exc, kNot_ok, kNot_exc, r_mand, r_mor, r_mnot, kMAnd_t, kMAnd_f, kMOr_t, kMOr_f, kMNot_ok, r_ife, kIfE_t, kIfE_f, kIfE_exc,
  r_anil, r_acons, kArg_ok, kArg_exc, kArgs_ok, kArgs_exc, r_tup, r_lst, r_fld, r_call, kCall_ok, kCall_exc, r_call0, noX_ok, r_meth, kM1_ok, kM1_exc, kM2_ok, kM2_stuck, kM3_ok, kM3_exc, r_meth0, kN1_ok, kN1_exc, kN2_ok, kN2_stuck, r_make, kMake_ok, mkEnd_ok, r_cb, r_isi, r_bm, kBM1_ok, kBM2_ok, r_alt, kAlt_ok, kAlt_exc, kAlt_stuck,
  r_sl, kSl1_ok, kSl2_ok, kSl3_ok, r_ptN, r_ptS, optI_ok, r_nil, r_seq, kSeq_nx, kSeq_rt, kSeq_xc, kSeq_bk, kSeq_ct, r_clr, kClr_nx, kClr_rt, kClr_xc, kClr_bk, kClr_ct, clr_nil, clr_cons, r_set, kSet_ok, kSet_exc, r_expr, kExpr_ok, kExpr_exc, r_ret, kRet_ok, kRet_exc, r_retN, r_if, kSIf_t, kSIf_f, kSIf_exc, r_brk, r_cont, r_for, kFor_ok,
  kItA_ok, kIt_some, r_itL, r_itT, r_itS, r_itR1, r_itR2, r_itEn, r_asg, kAsg_ok, sTgO_some, tgM_nm, setAllM_nil, setAllM_cons, r_aug, kAug1_ok, kAug2_ok, r_fs, kFS1_ok, kFS2_ok, nxO_some, r_sl1, kSL1_ok, kSL2_ok, kSL3_ok, r_fnB, kFn_nx, kFn_rt, kFn_xc, r_lc, kLc_ok, r_yes, r_tgtp, kTg_ok, r_items, r_itemsT, kItems_ok, r_self, kSelf_ok, r_isiR, kIsi_ok, r_ty, kTy_l, r_getF, kGetF_ok, kLk_ok, lk_yes, r_setF, r_itLl, kItL_ok, r_isL, kIsL_ok, r_lApp, kApp_ok, r_getI, kGetI_ok, r_getIT, r_setI, kSetI_ok, kStO_ok, r_while, r_bm0, kBM0_ok, r_lClear, kClear_ok, r_len, kLen_ok, len_tup, r_sl4, kSl4_ok, stepQ_nx, stepQ_ct, stepQ_bk, stepQ_rt, stepQ_xc,
  Res.bind_ok, Res.bind_exc, Res.bind_stuck,
  List.map_cons, List.map_nil, List.length_cons, List.length_nil, List.replicate_succ, List.replicate_zero, List.cons_append, List.nil_append, List.append_nil, List.set_cons_succ, List.set_cons_zero, List.getElem?_cons_succ, List.getElem?_cons_zero,
  Nat.reduceAdd, Nat.reduceSub, Nat.zero_add, Nat.sub_self, Bool.not_true, Bool.not_false, eq_self_iff_true, cAbs_int, add_int, m1, m2, mod_int (show (0 : Int) < 2147483629 by decide), mod_int (show (0 : Int) < 2147483647 by decide)]
    rw [← ho]
    have q1 := fun S => mul_int (S := S) o1 o1 (by omega)
    have q2 := fun S => mul_int (S := S) p2 o1 (by omega)
    have q3 := fun S => mul_int (S := S) p3 o1 (by omega)
    have q4 := fun S => mul_int (S := S) p4 o1 (by omega)
    have q5 := fun S => mul_int (S := S) p5 c9 (by omega)
    have q6 := fun S => mul_int (S := S) c2 p6 (by omega)
    simp -implicitDefEqProofs only [r_var, kVar_ok, r_c, r_op2, kOpA_ok, kOpA_exc, kOpB_ok, kOpB_exc, r_test, r_asB, r_and, r_or, r_not, kAnd_t, kAnd_f, kAnd_exc, kOr_t, kOr_f, kOr_exc, kNot_ok, kNot_exc, r_mand, r_mor, r_mnot, kMAnd_t, kMAnd_f, kMOr_t, kMOr_f, kMNot_ok, r_ife, kIfE_t, kIfE_f, kIfE_exc,
  r_anil, r_acons, kArg_ok, kArg_exc, kArgs_ok, kArgs_exc, r_tup, r_lst, r_fld, r_call, kCall_ok, kCall_exc, r_call0, noX_ok, r_meth, kM1_ok, kM1_exc, kM2_ok, kM2_stuck, kM3_ok, kM3_exc, r_meth0, kN1_ok, kN1_exc, kN2_ok, kN2_stuck, r_make, kMake_ok, mkEnd_ok, r_cb, r_isi, r_bm, kBM1_ok, kBM2_ok, r_alt, kAlt_ok, kAlt_exc, kAlt_stuck,
  r_sl, kSl1_ok, kSl2_ok, kSl3_ok, r_ptN, r_ptS, optI_ok, r_nil, r_seq, kSeq_nx, kSeq_rt, kSeq_xc, kSeq_bk, kSeq_ct, r_clr, kClr_nx, kClr_rt, kClr_xc, kClr_bk, kClr_ct, clr_nil, clr_cons, r_set, kSet_ok, kSet_exc, r_expr, kExpr_ok, kExpr_exc, r_ret, kRet_ok, kRet_exc, r_retN, r_if, kSIf_t, kSIf_f, kSIf_exc, r_brk, r_cont, r_for, kFor_ok,
  kItA_ok, kIt_some, r_itL, r_itT, r_itS, r_itR1, r_itR2, r_itEn, r_asg, kAsg_ok, sTgO_some, tgM_nm, setAllM_nil, setAllM_cons, r_aug, kAug1_ok, kAug2_ok, r_fs, kFS1_ok, kFS2_ok, nxO_some, r_sl1, kSL1_ok, kSL2_ok, kSL3_ok, r_fnB, kFn_nx, kFn_rt, kFn_xc, r_lc, kLc_ok, r_yes, r_tgtp, kTg_ok, r_items, r_itemsT, kItems_ok, r_self, kSelf_ok, r_isiR, kIsi_ok, r_ty, kTy_l, r_getF, kGetF_ok, kLk_ok, lk_yes, r_setF, r_itLl, kItL_ok, r_isL, kIsL_ok, r_lApp, kApp_ok, r_getI, kGetI_ok, r_getIT, r_setI, kSetI_ok, kStO_ok, r_while, r_bm0, kBM0_ok, r_lClear, kClear_ok, r_len, kLen_ok, len_tup, r_sl4, kSl4_ok, stepQ_nx, stepQ_ct, stepQ_bk, stepQ_rt, stepQ_xc,
  Res.bind_ok, Res.bind_exc, Res.bind_stuck,
  List.map_cons, List.map_nil, List.length_cons, List.length_nil, List.replicate_succ, List.replicate_zero, List.cons_append, List.nil_append, List.append_nil, List.set_cons_succ, List.set_cons_zero, List.getElem?_cons_succ, List.getElem?_cons_zero,
  Nat.reduceAdd, Nat.reduceSub, Nat.zero_add, Nat.sub_self, Bool.not_true, Bool.not_false, eq_self_iff_true, add_int, q1, q2, q3, q4, q5, q6, m2, mod_int (show (0 : Int) < 2147483647 by decide), itL_ok hl2, drawn_loop hl hsz hn, lstD_ok, le_line, Nat.zero_le]
    have e : drawNum c false = c * 1583458089 % 2147483647 + 2147483647 * (o * o * o * o * o * 982451653) := by
      subst ho
      simp only [drawNum, mix, Bool.false_eq_true, if_false]
    rw [e]
theorem cell_at_spec {ns : List Int} {S : Sto} (h0 : S[0]? = some (.lst true (ns.map .int))) (k : Nat) (z : Int) (hz : z = k) : f_law_cell_at [.loc 0, .int z] S = .ok (.int (ns.getD k 0)) S := by
  subst hz
  unfold f_law_cell_at b_law_cell_at
  by_cases h : k < ns.length
  · have e : decide ((k : Int) < ((ns.map D.int).length : Int)) = true := decide_eq_true (by rw [List.length_map]; omega)
    have e2 : (ns.map D.int)[k]? = some (.int (ns.getD k 0)) := by simp [List.getD, h]
    simp -implicitDefEqProofs only [r_var, kVar_ok, r_c, r_op2, kOpA_ok, kOpA_exc, kOpB_ok, kOpB_exc, r_test, r_asB, r_and, r_or, r_not, kAnd_t, kAnd_f, kAnd_exc, kOr_t, kOr_f, kOr_exc, kNot_ok, kNot_exc, r_mand, r_mor, r_mnot, kMAnd_t, kMAnd_f, kMOr_t, kMOr_f, kMNot_ok, r_ife, kIfE_t, kIfE_f, kIfE_exc,
  r_anil, r_acons, kArg_ok, kArg_exc, kArgs_ok, kArgs_exc, r_tup, r_lst, r_fld, r_call, kCall_ok, kCall_exc, r_call0, noX_ok, r_meth, kM1_ok, kM1_exc, kM2_ok, kM2_stuck, kM3_ok, kM3_exc, r_meth0, kN1_ok, kN1_exc, kN2_ok, kN2_stuck, r_make, kMake_ok, mkEnd_ok, r_cb, r_isi, r_bm, kBM1_ok, kBM2_ok, r_alt, kAlt_ok, kAlt_exc, kAlt_stuck,
  r_sl, kSl1_ok, kSl2_ok, kSl3_ok, r_ptN, r_ptS, optI_ok, r_nil, r_seq, kSeq_nx, kSeq_rt, kSeq_xc, kSeq_bk, kSeq_ct, r_clr, kClr_nx, kClr_rt, kClr_xc, kClr_bk, kClr_ct, clr_nil, clr_cons, r_set, kSet_ok, kSet_exc, r_expr, kExpr_ok, kExpr_exc, r_ret, kRet_ok, kRet_exc, r_retN, r_if, kSIf_t, kSIf_f, kSIf_exc, r_brk, r_cont, r_for, kFor_ok,
  kItA_ok, kIt_some, r_itL, r_itT, r_itS, r_itR1, r_itR2, r_itEn, r_asg, kAsg_ok, sTgO_some, tgM_nm, setAllM_nil, setAllM_cons, r_aug, kAug1_ok, kAug2_ok, r_fs, kFS1_ok, kFS2_ok, nxO_some, r_sl1, kSL1_ok, kSL2_ok, kSL3_ok, r_fnB, kFn_nx, kFn_rt, kFn_xc, r_lc, kLc_ok, r_yes, r_tgtp, kTg_ok, r_items, r_itemsT, kItems_ok, r_self, kSelf_ok, r_isiR, kIsi_ok, r_ty, kTy_l, r_getF, kGetF_ok, kLk_ok, lk_yes, r_setF, r_itLl, kItL_ok, r_isL, kIsL_ok, r_lApp, kApp_ok, r_getI, kGetI_ok, r_getIT, r_setI, kSetI_ok, kStO_ok, r_while, r_bm0, kBM0_ok, r_lClear, kClear_ok, r_len, kLen_ok, len_tup, r_sl4, kSl4_ok, stepQ_nx, stepQ_ct, stepQ_bk, stepQ_rt, stepQ_xc,
  Res.bind_ok, Res.bind_exc, Res.bind_stuck,
  List.map_cons, List.map_nil, List.length_cons, List.length_nil, List.replicate_succ, List.replicate_zero, List.cons_append, List.nil_append, List.append_nil, List.set_cons_succ, List.set_cons_zero, List.getElem?_cons_succ, List.getElem?_cons_zero,
  Nat.reduceAdd, Nat.reduceSub, Nat.zero_add, Nat.sub_self, Bool.not_true, Bool.not_false, eq_self_iff_true, lt_int, h0, e, atI_nat e2]
  · have e : decide ((k : Int) < ((ns.map D.int).length : Int)) = false := decide_eq_false (by rw [List.length_map]; omega)
    have e2 : ns.getD k 0 = 0 := by simp [List.getD, h]
    simp -implicitDefEqProofs only [r_var, kVar_ok, r_c, r_op2, kOpA_ok, kOpA_exc, kOpB_ok, kOpB_exc, r_test, r_asB, r_and, r_or, r_not, kAnd_t, kAnd_f, kAnd_exc, kOr_t, kOr_f, kOr_exc, kNot_ok, kNot_exc, r_mand, r_mor, r_mnot, kMAnd_t, kMAnd_f, kMOr_t, kMOr_f, kMNot_ok, r_ife, kIfE_t, kIfE_f, kIfE_exc,
  r_anil, r_acons, kArg_ok, kArg_exc, kArgs_ok, kArgs_exc, r_tup, r_lst, r_fld, r_call, kCall_ok, kCall_exc, r_call0, noX_ok, r_meth, kM1_ok, kM1_exc, kM2_ok, kM2_stuck, kM3_ok, kM3_exc, r_meth0, kN1_ok, kN1_exc, kN2_ok, kN2_stuck, r_make, kMake_ok, mkEnd_ok, r_cb, r_isi, r_bm, kBM1_ok, kBM2_ok, r_alt, kAlt_ok, kAlt_exc, kAlt_stuck,
  r_sl, kSl1_ok, kSl2_ok, kSl3_ok, r_ptN, r_ptS, optI_ok, r_nil, r_seq, kSeq_nx, kSeq_rt, kSeq_xc, kSeq_bk, kSeq_ct, r_clr, kClr_nx, kClr_rt, kClr_xc, kClr_bk, kClr_ct, clr_nil, clr_cons, r_set, kSet_ok, kSet_exc, r_expr, kExpr_ok, kExpr_exc, r_ret, kRet_ok, kRet_exc, r_retN, r_if, kSIf_t, kSIf_f, kSIf_exc, r_brk, r_cont, r_for, kFor_ok,
  kItA_ok, kIt_some, r_itL, r_itT, r_itS, r_itR1, r_itR2, r_itEn, r_asg, kAsg_ok, sTgO_some, tgM_nm, setAllM_nil, setAllM_cons, r_aug, kAug1_ok, kAug2_ok, r_fs, kFS1_ok, kFS2_ok, nxO_some, r_sl1, kSL1_ok, kSL2_ok, kSL3_ok, r_fnB, kFn_nx, kFn_rt, kFn_xc, r_lc, kLc_ok, r_yes, r_tgtp, kTg_ok, r_items, r_itemsT, kItems_ok, r_self, kSelf_ok, r_isiR, kIsi_ok, r_ty, kTy_l, r_getF, kGetF_ok, kLk_ok, lk_yes, r_setF, r_itLl, kItL_ok, r_isL, kIsL_ok, r_lApp, kApp_ok, r_getI, kGetI_ok, r_getIT, r_setI, kSetI_ok, kStO_ok, r_while, r_bm0, kBM0_ok, r_lClear, kClear_ok, r_len, kLen_ok, len_tup, r_sl4, kSl4_ok, stepQ_nx, stepQ_ct, stepQ_bk, stepQ_rt, stepQ_xc,
  Res.bind_ok, Res.bind_exc, Res.bind_stuck,
  List.map_cons, List.map_nil, List.length_cons, List.length_nil, List.replicate_succ, List.replicate_zero, List.cons_append, List.nil_append, List.append_nil, List.set_cons_succ, List.set_cons_zero, List.getElem?_cons_succ, List.getElem?_cons_zero,
  Nat.reduceAdd, Nat.reduceSub, Nat.zero_add, Nat.sub_self, Bool.not_true, Bool.not_false, eq_self_iff_true, lt_int, h0, e, e2]
theorem cell_bits {ns : List Int} (hb : ∀ z ∈ ns, Builtin.Int.intBits z ≤ 1048576) (k : Nat) : Builtin.Int.intBits (ns.getD k 0) ≤ 1048576 := by
  by_cases h : k < ns.length
  · have e2 : ns.getD k 0 = ns[k] := by simp [List.getD, h]
    rw [e2]; exact hb _ (List.getElem_mem h)
  · have e2 : ns.getD k 0 = 0 := by simp [List.getD, h]
    rw [e2]; decide +kernel
/-! ### rooms -/
theorem mul_nat {a b : Nat} (ha : a < 2 ^ 40) (hb : b < 2 ^ 40) (S : Sto) : mulD (.int (a : Int)) (.int (b : Int)) S = .ok (.int ((a * b : Nat) : Int)) S := by
  rw [mul_int (a := 40) (b := 40) (by simpa using ha) (by simpa using hb) (by decide), Int.natCast_mul]
theorem isN_iff {x : D} : D.isN x = true ↔ x = .non := by
  cases x <;> simp [D.isN]
def dO : Option Nat → D
  | some p => .int p
  | none => .non
structure RoomsAt (S : Sto) (r l : Nat) (many cells : Nat) (xs : List D) : Prop where
  obj : S[r]? = some (.ins .Rooms [(.many, .int many), (.cells, .int cells), (.inside, .loc l)])
  ins : S[l]? = some (.lst false xs)
  len : xs.length = many * cells
  sm : many < 2 ^ 20
  sc : cells < 2 ^ 20
def FreeRun (xs : List D) (p L : Nat) : Prop := ∀ q, p ≤ q → q < p + L → xs[q]? = some .non
def FitR (xs : List D) (cells room p L : Nat) : Prop := room * cells ≤ p ∧ p + L ≤ (room + 1) * cells ∧ FreeRun xs p L
def Fit (xs : List D) (many cells p L : Nat) : Prop := ∃ room, room < many ∧ FitR xs cells room p L
def GapIs (xs : List D) (many cells L : Nat) : Option Nat → Prop
  | some p => Fit xs many cells p L ∧ ∀ q, q < p → ¬ Fit xs many cells q L
  | none => ∀ q, ¬ Fit xs many cells q L
theorem GapIs.uniq {xs : List D} {many cells L : Nat} {a b : Option Nat} (h : GapIs xs many cells L a) (h2 : GapIs xs many cells L b) : a = b := by
  cases a with
  | none => cases b with
    | none => rfl
    | some q => exact absurd h2.1 (h q)
  | some p => cases b with
    | none => exact absurd h.1 (h2 p)
    | some q =>
      rcases Nat.lt_trichotomy p q with z | z | z
      · exact absurd h.1 (h2.2 p z)
      · rw [z]
      · exact absurd h2.1 (h.2 q z)
theorem room_lt {many cells room : Nat} (h : room < many) : (room + 1) * cells ≤ many * cells := Nat.mul_le_mul_right _ h
def fillL (xs : List D) (p : Nat) : List D → List D
  | [] => xs
  | v :: vs => fillL (xs.set p v) (p + 1) vs
theorem fillL_len : ∀ {vs xs : List D} {p : Nat}, (fillL xs p vs).length = xs.length
  | [], _, _ => rfl
  | v :: vs, xs, p => by rw [fillL, fillL_len, List.length_set]
theorem fillL_snoc : ∀ {vs xs : List D} {p : Nat} {v : D}, fillL xs p (vs ++ [v]) = (fillL xs p vs).set (p + vs.length) v
  | [], xs, p, v => rfl
  | w :: vs, xs, p, v => by
    rw [List.cons_append, fillL, fillL_snoc, fillL, List.length_cons, show p + 1 + vs.length = p + (vs.length + 1) by omega]
theorem RoomsAt.pre {S S' : Sto} {r l many cells : Nat} {xs : List D} (R : RoomsAt S r l many cells xs) (h : S <+: S') : RoomsAt S' r l many cells xs :=
  ⟨pfx_get h R.obj, pfx_get h R.ins, R.len, R.sm, R.sc⟩
theorem RoomsAt.ne {S : Sto} {r l many cells : Nat} {xs : List D} (R : RoomsAt S r l many cells xs) : r ≠ l := by
  intro z
  have h1 := R.obj
  have h2 := R.ins
  rw [z, h2] at h1
  cases h1
theorem RoomsAt.upd {S : Sto} {r l many cells : Nat} {xs : List D} (R : RoomsAt S r l many cells xs) {ys : List D} (h : ys.length = xs.length) : RoomsAt (S.set l (.lst false ys)) r l many cells ys :=
  ⟨set_get_ne R.obj R.ne.symm, set_get_self R.ins, by rw [h, R.len], R.sm, R.sc⟩
theorem ixN_lt {n j : Nat} (h : j < n) : ixN n (j : Int) = some j := by
  unfold ixN
  rw [if_pos (by omega), if_pos (by omega), Int.toNat_natCast]
theorem fill_in_spec {S : Sto} {r l many cells m p : Nat} {fz : Bool} {xs vs : List D} (R : RoomsAt S r l many cells xs) (hm : S[m]? = some (.lst fz vs)) (hne : l ≠ m) (hp : p + vs.length ≤ xs.length) :
    f_Rooms_fill_in [.loc r, .int p, .loc m] S = .ok .non (S.set l (.lst false (fillL xs p vs))) := by
  unfold f_Rooms_fill_in b_Rooms_fill_in
  simp -implicitDefEqProofs only [r_var, kVar_ok, r_c, r_op2, kOpA_ok, kOpA_exc, kOpB_ok, kOpB_exc, r_test, r_asB, r_and, r_or, r_not, kAnd_t, kAnd_f, kAnd_exc, kOr_t, kOr_f, kOr_exc, kNot_ok, kNot_exc, r_mand, r_mor, r_mnot, kMAnd_t, kMAnd_f, kMOr_t, kMOr_f, kMNot_ok, r_ife, kIfE_t, kIfE_f, kIfE_exc,
  r_anil, r_acons, kArg_ok, kArg_exc, kArgs_ok, kArgs_exc, r_tup, r_lst, r_fld, r_call, kCall_ok, kCall_exc, r_call0, noX_ok, r_meth, kM1_ok, kM1_exc, kM2_ok, kM2_stuck, kM3_ok, kM3_exc, r_meth0, kN1_ok, kN1_exc, kN2_ok, kN2_stuck, r_make, kMake_ok, mkEnd_ok, r_cb, r_isi, r_bm, kBM1_ok, kBM2_ok, r_alt, kAlt_ok, kAlt_exc, kAlt_stuck,
  r_sl, kSl1_ok, kSl2_ok, kSl3_ok, r_ptN, r_ptS, optI_ok, r_nil, r_seq, kSeq_nx, kSeq_rt, kSeq_xc, kSeq_bk, kSeq_ct, r_clr, kClr_nx, kClr_rt, kClr_xc, kClr_bk, kClr_ct, clr_nil, clr_cons, r_set, kSet_ok, kSet_exc, r_expr, kExpr_ok, kExpr_exc, r_ret, kRet_ok, kRet_exc, r_retN, r_if, kSIf_t, kSIf_f, kSIf_exc, r_brk, r_cont, r_for, kFor_ok,
  kItA_ok, kIt_some, r_itL, r_itT, r_itS, r_itR1, r_itR2, r_itEn, r_asg, kAsg_ok, sTgO_some, tgM_nm, setAllM_nil, setAllM_cons, r_aug, kAug1_ok, kAug2_ok, r_fs, kFS1_ok, kFS2_ok, nxO_some, r_sl1, kSL1_ok, kSL2_ok, kSL3_ok, r_fnB, kFn_nx, kFn_rt, kFn_xc, r_lc, kLc_ok, r_yes, r_tgtp, kTg_ok, r_items, r_itemsT, kItems_ok, r_self, kSelf_ok, r_isiR, kIsi_ok, r_ty, kTy_l, r_getF, kGetF_ok, kLk_ok, lk_yes, r_setF, r_itLl, kItL_ok, r_isL, kIsL_ok, r_lApp, kApp_ok, r_getI, kGetI_ok, r_getIT, r_setI, kSetI_ok, kStO_ok, r_while, r_bm0, kBM0_ok, r_lClear, kClear_ok, r_len, kLen_ok, len_tup, r_sl4, kSl4_ok, stepQ_nx, stepQ_ct, stepQ_bk, stepQ_rt, stepQ_xc,
  Res.bind_ok, Res.bind_exc, Res.bind_stuck,
  List.map_cons, List.map_nil, List.length_cons, List.length_nil, List.replicate_succ, List.replicate_zero, List.cons_append, List.nil_append, List.append_nil, List.set_cons_succ, List.set_cons_zero, List.getElem?_cons_succ, List.getElem?_cons_zero,
  Nat.reduceAdd, Nat.reduceSub, Nat.zero_add, Nat.sub_self, Bool.not_true, Bool.not_false, eq_self_iff_true, List.append_assoc, at_z, at_k, set_z, set_k, List.length_append, Nat.add_assoc, r_addL, kAdd_ok, r_rep, r_en, kEn_ok, putFl, hm]
  generalize hf : forGo _ _ _ _ _ _ _ = res
  have hres : res = .nx [some (.loc r), some (.int p), some (.loc m), none, none] (S.set l (.lst false (fillL xs p vs))) := by
    refine forE hf vs (fun i ρ S' => i ≤ vs.length ∧ ρ = [some (.loc r), some (.int p), some (.loc m), none, none] ∧ S' = S.set l (.lst false (fillL xs p (vs.take i)))) (fun res => res = .nx [some (.loc r), some (.int p), some (.loc m), none, none] (S.set l (.lst false (fillL xs p vs)))) (by omega) ⟨by omega, rfl, ?_⟩ ?_ ?_ ?_
    · rw [List.take_zero, fillL]
      obtain ⟨hlt, e⟩ := List.getElem?_eq_some_iff.mp R.ins
      rw [← e, List.set_getElem_self]
    · rintro i ρ S' ⟨_, rfl, rfl⟩
      exact ⟨_, set_get_ne hm hne⟩
    · rintro i v ρ S' e ⟨hi, rfl, rfl⟩
      have hi2 := (List.getElem?_eq_some_iff.mp e).1
      refine ⟨_, rfl, ?_⟩
      have R2 := R.upd (ys := fillL xs p (vs.take i)) fillL_len
      have f3 : (Fl.inside == Fl.many) = false := by decide
      have f4 : (Fl.inside == Fl.cells) = false := by decide
      have ix : ixN (fillL xs p (vs.take i)).length ((p : Int) + (i : Int)) = some (p + i) := by
        rw [← Int.natCast_add]
        exact ixN_lt (by rw [fillL_len]; omega)
      simp -implicitDefEqProofs only [r_var, kVar_ok, r_c, r_op2, kOpA_ok, kOpA_exc, kOpB_ok, kOpB_exc, r_test, r_asB, r_and, r_or, r_not, kAnd_t, kAnd_f, kAnd_exc, kOr_t, kOr_f, kOr_exc, kNot_ok, kNot_exc, r_mand, r_mor, r_mnot, kMAnd_t, kMAnd_f, kMOr_t, kMOr_f, kMNot_ok, r_ife, kIfE_t, kIfE_f, kIfE_exc,
  r_anil, r_acons, kArg_ok, kArg_exc, kArgs_ok, kArgs_exc, r_tup, r_lst, r_fld, r_call, kCall_ok, kCall_exc, r_call0, noX_ok, r_meth, kM1_ok, kM1_exc, kM2_ok, kM2_stuck, kM3_ok, kM3_exc, r_meth0, kN1_ok, kN1_exc, kN2_ok, kN2_stuck, r_make, kMake_ok, mkEnd_ok, r_cb, r_isi, r_bm, kBM1_ok, kBM2_ok, r_alt, kAlt_ok, kAlt_exc, kAlt_stuck,
  r_sl, kSl1_ok, kSl2_ok, kSl3_ok, r_ptN, r_ptS, optI_ok, r_nil, r_seq, kSeq_nx, kSeq_rt, kSeq_xc, kSeq_bk, kSeq_ct, r_clr, kClr_nx, kClr_rt, kClr_xc, kClr_bk, kClr_ct, clr_nil, clr_cons, r_set, kSet_ok, kSet_exc, r_expr, kExpr_ok, kExpr_exc, r_ret, kRet_ok, kRet_exc, r_retN, r_if, kSIf_t, kSIf_f, kSIf_exc, r_brk, r_cont, r_for, kFor_ok,
  kItA_ok, kIt_some, r_itL, r_itT, r_itS, r_itR1, r_itR2, r_itEn, r_asg, kAsg_ok, sTgO_some, tgM_nm, setAllM_nil, setAllM_cons, r_aug, kAug1_ok, kAug2_ok, r_fs, kFS1_ok, kFS2_ok, nxO_some, r_sl1, kSL1_ok, kSL2_ok, kSL3_ok, r_fnB, kFn_nx, kFn_rt, kFn_xc, r_lc, kLc_ok, r_yes, r_tgtp, kTg_ok, r_items, r_itemsT, kItems_ok, r_self, kSelf_ok, r_isiR, kIsi_ok, r_ty, kTy_l, r_getF, kGetF_ok, kLk_ok, lk_yes, r_setF, r_itLl, kItL_ok, r_isL, kIsL_ok, r_lApp, kApp_ok, r_getI, kGetI_ok, r_getIT, r_setI, kSetI_ok, kStO_ok, r_while, r_bm0, kBM0_ok, r_lClear, kClear_ok, r_len, kLen_ok, len_tup, r_sl4, kSl4_ok, stepQ_nx, stepQ_ct, stepQ_bk, stepQ_rt, stepQ_xc,
  Res.bind_ok, Res.bind_exc, Res.bind_stuck,
  List.map_cons, List.map_nil, List.length_cons, List.length_nil, List.replicate_succ, List.replicate_zero, List.cons_append, List.nil_append, List.append_nil, List.set_cons_succ, List.set_cons_zero, List.getElem?_cons_succ, List.getElem?_cons_zero,
  Nat.reduceAdd, Nat.reduceSub, Nat.zero_add, Nat.sub_self, Bool.not_true, Bool.not_false, eq_self_iff_true, R2.obj, R2.ins, lk_no f3, lk_no f4, add_int, ix, List.set_set]
      refine ⟨by omega, trivial, ?_⟩
      have e3 : vs.take (i + 1) = vs.take i ++ [v] := by rw [List.take_add_one, e]; rfl
      rw [e3, fillL_snoc, List.length_take, Nat.min_eq_left (by omega)]
    · rintro ρ S' ⟨_, rfl, rfl⟩
      rw [List.take_length]
  subst hres
  simp -implicitDefEqProofs only [r_var, kVar_ok, r_c, r_op2, kOpA_ok, kOpA_exc, kOpB_ok, kOpB_exc, r_test, r_asB, r_and, r_or, r_not, kAnd_t, kAnd_f, kAnd_exc, kOr_t, kOr_f, kOr_exc, kNot_ok, kNot_exc, r_mand, r_mor, r_mnot, kMAnd_t, kMAnd_f, kMOr_t, kMOr_f, kMNot_ok, r_ife, kIfE_t, kIfE_f, kIfE_exc,
  r_anil, r_acons, kArg_ok, kArg_exc, kArgs_ok, kArgs_exc, r_tup, r_lst, r_fld, r_call, kCall_ok, kCall_exc, r_call0, noX_ok, r_meth, kM1_ok, kM1_exc, kM2_ok, kM2_stuck, kM3_ok, kM3_exc, r_meth0, kN1_ok, kN1_exc, kN2_ok, kN2_stuck, r_make, kMake_ok, mkEnd_ok, r_cb, r_isi, r_bm, kBM1_ok, kBM2_ok, r_alt, kAlt_ok, kAlt_exc, kAlt_stuck,
  r_sl, kSl1_ok, kSl2_ok, kSl3_ok, r_ptN, r_ptS, optI_ok, r_nil, r_seq, kSeq_nx, kSeq_rt, kSeq_xc, kSeq_bk, kSeq_ct, r_clr, kClr_nx, kClr_rt, kClr_xc, kClr_bk, kClr_ct, clr_nil, clr_cons, r_set, kSet_ok, kSet_exc, r_expr, kExpr_ok, kExpr_exc, r_ret, kRet_ok, kRet_exc, r_retN, r_if, kSIf_t, kSIf_f, kSIf_exc, r_brk, r_cont, r_for, kFor_ok,
  kItA_ok, kIt_some, r_itL, r_itT, r_itS, r_itR1, r_itR2, r_itEn, r_asg, kAsg_ok, sTgO_some, tgM_nm, setAllM_nil, setAllM_cons, r_aug, kAug1_ok, kAug2_ok, r_fs, kFS1_ok, kFS2_ok, nxO_some, r_sl1, kSL1_ok, kSL2_ok, kSL3_ok, r_fnB, kFn_nx, kFn_rt, kFn_xc, r_lc, kLc_ok, r_yes, r_tgtp, kTg_ok, r_items, r_itemsT, kItems_ok, r_self, kSelf_ok, r_isiR, kIsi_ok, r_ty, kTy_l, r_getF, kGetF_ok, kLk_ok, lk_yes, r_setF, r_itLl, kItL_ok, r_isL, kIsL_ok, r_lApp, kApp_ok, r_getI, kGetI_ok, r_getIT, r_setI, kSetI_ok, kStO_ok, r_while, r_bm0, kBM0_ok, r_lClear, kClear_ok, r_len, kLen_ok, len_tup, r_sl4, kSl4_ok, stepQ_nx, stepQ_ct, stepQ_bk, stepQ_rt, stepQ_xc,
  Res.bind_ok, Res.bind_exc, Res.bind_stuck,
  List.map_cons, List.map_nil, List.length_cons, List.length_nil, List.replicate_succ, List.replicate_zero, List.cons_append, List.nil_append, List.append_nil, List.set_cons_succ, List.set_cons_zero, List.getElem?_cons_succ, List.getElem?_cons_zero,
  Nat.reduceAdd, Nat.reduceSub, Nat.zero_add, Nat.sub_self, Bool.not_true, Bool.not_false, eq_self_iff_true]
theorem rooms_make_spec {S : Sto} {many cells : Nat} (h1 : many < 2 ^ 20) (h2 : cells < 2 ^ 20) (h3 : many * cells ≤ 100000) :
    ∃ S', mkEnd S.length (f_Rooms_init [.loc S.length, .int many, .int cells] (S ++ [.ins .Rooms []])) = .ok (.loc S.length) S' ∧ S <+: S' ∧ S'.length = S.length + 3 ∧ RoomsAt S' S.length (S.length + 2) many cells (List.replicate (many * cells) .non) := by
  have m1 := fun S => mul_nat (a := many) (b := cells) (by omega) (by omega) S
  have o1 : okF .Rooms .many = true := by decide
  have o2 : okF .Rooms .cells = true := by decide
  have o3 : okF .Rooms .inside = true := by decide
  have f1 : (Fl.many = Fl.cells) = False := by simp
  have f3 : (Fl.many = Fl.inside) = False := by simp
  have f4 : (Fl.cells = Fl.inside) = False := by simp
  refine ⟨S ++ [.ins .Rooms [(.many, .int many), (.cells, .int cells), (.inside, .loc (S.length + 2))], .lst false [.non], .lst false (List.replicate (many * cells) .non)], ?_, ⟨_, rfl⟩, by simp, ⟨?_, ?_, by simp, h1, h2⟩⟩
  · unfold f_Rooms_init b_Rooms_init
    simp -implicitDefEqProofs only [r_var, kVar_ok, r_c, r_op2, kOpA_ok, kOpA_exc, kOpB_ok, kOpB_exc, r_test, r_asB, r_and, r_or, r_not, kAnd_t, kAnd_f, kAnd_exc, kOr_t, kOr_f, kOr_exc, kNot_ok, kNot_exc, r_mand, r_mor, r_mnot, kMAnd_t, kMAnd_f, kMOr_t, kMOr_f, kMNot_ok, r_ife, kIfE_t, kIfE_f, kIfE_exc,
  r_anil, r_acons, kArg_ok, kArg_exc, kArgs_ok, kArgs_exc, r_tup, r_lst, r_fld, r_call, kCall_ok, kCall_exc, r_call0, noX_ok, r_meth, kM1_ok, kM1_exc, kM2_ok, kM2_stuck, kM3_ok, kM3_exc, r_meth0, kN1_ok, kN1_exc, kN2_ok, kN2_stuck, r_make, kMake_ok, mkEnd_ok, r_cb, r_isi, r_bm, kBM1_ok, kBM2_ok, r_alt, kAlt_ok, kAlt_exc, kAlt_stuck,
  r_sl, kSl1_ok, kSl2_ok, kSl3_ok, r_ptN, r_ptS, optI_ok, r_nil, r_seq, kSeq_nx, kSeq_rt, kSeq_xc, kSeq_bk, kSeq_ct, r_clr, kClr_nx, kClr_rt, kClr_xc, kClr_bk, kClr_ct, clr_nil, clr_cons, r_set, kSet_ok, kSet_exc, r_expr, kExpr_ok, kExpr_exc, r_ret, kRet_ok, kRet_exc, r_retN, r_if, kSIf_t, kSIf_f, kSIf_exc, r_brk, r_cont, r_for, kFor_ok,
  kItA_ok, kIt_some, r_itL, r_itT, r_itS, r_itR1, r_itR2, r_itEn, r_asg, kAsg_ok, sTgO_some, tgM_nm, setAllM_nil, setAllM_cons, r_aug, kAug1_ok, kAug2_ok, r_fs, kFS1_ok, kFS2_ok, nxO_some, r_sl1, kSL1_ok, kSL2_ok, kSL3_ok, r_fnB, kFn_nx, kFn_rt, kFn_xc, r_lc, kLc_ok, r_yes, r_tgtp, kTg_ok, r_items, r_itemsT, kItems_ok, r_self, kSelf_ok, r_isiR, kIsi_ok, r_ty, kTy_l, r_getF, kGetF_ok, kLk_ok, lk_yes, r_setF, r_itLl, kItL_ok, r_isL, kIsL_ok, r_lApp, kApp_ok, r_getI, kGetI_ok, r_getIT, r_setI, kSetI_ok, kStO_ok, r_while, r_bm0, kBM0_ok, r_lClear, kClear_ok, r_len, kLen_ok, len_tup, r_sl4, kSl4_ok, stepQ_nx, stepQ_ct, stepQ_bk, stepQ_rt, stepQ_xc,
  Res.bind_ok, Res.bind_exc, Res.bind_stuck,
  List.map_cons, List.map_nil, List.length_cons, List.length_nil, List.replicate_succ, List.replicate_zero, List.cons_append, List.nil_append, List.append_nil, List.set_cons_succ, List.set_cons_zero, List.getElem?_cons_succ, List.getElem?_cons_zero,
  Nat.reduceAdd, Nat.reduceSub, Nat.zero_add, Nat.sub_self, Bool.not_true, Bool.not_false, eq_self_iff_true, List.append_assoc, at_z, at_k, set_z, set_k, List.length_append, Nat.add_assoc, r_addL, kAdd_ok, r_rep, r_en, kEn_ok, putFl, kSetF_ok, o1, o2, o3, Nat.reduceLT, f1, f3, f4, if_false, lstD_ok, Nat.reduceLeDiff, m1, kRep_nat h3, mkEnd_ok]
  · rw [at_z]; rfl
  · rw [at_k]; rfl
def nons (n : Nat) : List D := List.replicate n .non
theorem nons_len {n : Nat} : (nons n).length = n := List.length_replicate
theorem nons_succ {n : Nat} : nons (n + 1) = nons n ++ [.non] := List.replicate_succ'
theorem set_free_spec {S : Sto} {r l many cells p L : Nat} {xs : List D} (R : RoomsAt S r l many cells xs) (hp : p + L ≤ xs.length) (hL : L < 2 ^ 20) :
    f_Rooms_set_free [.loc r, .int p, .int L] S = .ok .non (S.set l (.lst false (fillL xs p (nons L)))) := by
  unfold f_Rooms_set_free b_Rooms_set_free
  have tn : (L : Int).toNat = L := Int.toNat_natCast L
  simp -implicitDefEqProofs only [r_var, kVar_ok, r_c, r_op2, kOpA_ok, kOpA_exc, kOpB_ok, kOpB_exc, r_test, r_asB, r_and, r_or, r_not, kAnd_t, kAnd_f, kAnd_exc, kOr_t, kOr_f, kOr_exc, kNot_ok, kNot_exc, r_mand, r_mor, r_mnot, kMAnd_t, kMAnd_f, kMOr_t, kMOr_f, kMNot_ok, r_ife, kIfE_t, kIfE_f, kIfE_exc,
  r_anil, r_acons, kArg_ok, kArg_exc, kArgs_ok, kArgs_exc, r_tup, r_lst, r_fld, r_call, kCall_ok, kCall_exc, r_call0, noX_ok, r_meth, kM1_ok, kM1_exc, kM2_ok, kM2_stuck, kM3_ok, kM3_exc, r_meth0, kN1_ok, kN1_exc, kN2_ok, kN2_stuck, r_make, kMake_ok, mkEnd_ok, r_cb, r_isi, r_bm, kBM1_ok, kBM2_ok, r_alt, kAlt_ok, kAlt_exc, kAlt_stuck,
  r_sl, kSl1_ok, kSl2_ok, kSl3_ok, r_ptN, r_ptS, optI_ok, r_nil, r_seq, kSeq_nx, kSeq_rt, kSeq_xc, kSeq_bk, kSeq_ct, r_clr, kClr_nx, kClr_rt, kClr_xc, kClr_bk, kClr_ct, clr_nil, clr_cons, r_set, kSet_ok, kSet_exc, r_expr, kExpr_ok, kExpr_exc, r_ret, kRet_ok, kRet_exc, r_retN, r_if, kSIf_t, kSIf_f, kSIf_exc, r_brk, r_cont, r_for, kFor_ok,
  kItA_ok, kIt_some, r_itL, r_itT, r_itS, r_itR1, r_itR2, r_itEn, r_asg, kAsg_ok, sTgO_some, tgM_nm, setAllM_nil, setAllM_cons, r_aug, kAug1_ok, kAug2_ok, r_fs, kFS1_ok, kFS2_ok, nxO_some, r_sl1, kSL1_ok, kSL2_ok, kSL3_ok, r_fnB, kFn_nx, kFn_rt, kFn_xc, r_lc, kLc_ok, r_yes, r_tgtp, kTg_ok, r_items, r_itemsT, kItems_ok, r_self, kSelf_ok, r_isiR, kIsi_ok, r_ty, kTy_l, r_getF, kGetF_ok, kLk_ok, lk_yes, r_setF, r_itLl, kItL_ok, r_isL, kIsL_ok, r_lApp, kApp_ok, r_getI, kGetI_ok, r_getIT, r_setI, kSetI_ok, kStO_ok, r_while, r_bm0, kBM0_ok, r_lClear, kClear_ok, r_len, kLen_ok, len_tup, r_sl4, kSl4_ok, stepQ_nx, stepQ_ct, stepQ_bk, stepQ_rt, stepQ_xc,
  Res.bind_ok, Res.bind_exc, Res.bind_stuck,
  List.map_cons, List.map_nil, List.length_cons, List.length_nil, List.replicate_succ, List.replicate_zero, List.cons_append, List.nil_append, List.append_nil, List.set_cons_succ, List.set_cons_zero, List.getElem?_cons_succ, List.getElem?_cons_zero,
  Nat.reduceAdd, Nat.reduceSub, Nat.zero_add, Nat.sub_self, Bool.not_true, Bool.not_false, eq_self_iff_true, itR1_ok (show (0 : Int) ≤ (L : Int) by omega) (show (L : Int) < 2 ^ 62 by omega), tn]
  generalize hf : forGo _ _ _ _ _ _ _ = res
  have hres : res = .nx [some (.loc r), some (.int p), some (.int L), none] (S.set l (.lst false (fillL xs p (nons L)))) := by
    refine forR hf (fun i ρ S' => i ≤ L ∧ ρ = [some (.loc r), some (.int p), some (.int L), none] ∧ S' = S.set l (.lst false (fillL xs p (nons i)))) (fun res => res = .nx [some (.loc r), some (.int p), some (.int L), none] (S.set l (.lst false (fillL xs p (nons L))))) (by omega) ⟨by omega, rfl, ?_⟩ ?_ ?_
    · rw [show nons 0 = [] from rfl, fillL]
      obtain ⟨hlt, e⟩ := List.getElem?_eq_some_iff.mp R.ins
      rw [← e, List.set_getElem_self]
    · rintro i ρ S' hi2 ⟨_, rfl, rfl⟩
      refine ⟨_, rfl, ?_⟩
      have R2 := R.upd (ys := fillL xs p (nons i)) fillL_len
      have f3 : (Fl.inside == Fl.many) = false := by decide
      have f4 : (Fl.inside == Fl.cells) = false := by decide
      have ix : ixN (fillL xs p (nons i)).length ((p : Int) + (i : Int)) = some (p + i) := by
        rw [← Int.natCast_add]
        exact ixN_lt (by rw [fillL_len]; omega)
      simp -implicitDefEqProofs only [r_var, kVar_ok, r_c, r_op2, kOpA_ok, kOpA_exc, kOpB_ok, kOpB_exc, r_test, r_asB, r_and, r_or, r_not, kAnd_t, kAnd_f, kAnd_exc, kOr_t, kOr_f, kOr_exc, kNot_ok, kNot_exc, r_mand, r_mor, r_mnot, kMAnd_t, kMAnd_f, kMOr_t, kMOr_f, kMNot_ok, r_ife, kIfE_t, kIfE_f, kIfE_exc,
  r_anil, r_acons, kArg_ok, kArg_exc, kArgs_ok, kArgs_exc, r_tup, r_lst, r_fld, r_call, kCall_ok, kCall_exc, r_call0, noX_ok, r_meth, kM1_ok, kM1_exc, kM2_ok, kM2_stuck, kM3_ok, kM3_exc, r_meth0, kN1_ok, kN1_exc, kN2_ok, kN2_stuck, r_make, kMake_ok, mkEnd_ok, r_cb, r_isi, r_bm, kBM1_ok, kBM2_ok, r_alt, kAlt_ok, kAlt_exc, kAlt_stuck,
  r_sl, kSl1_ok, kSl2_ok, kSl3_ok, r_ptN, r_ptS, optI_ok, r_nil, r_seq, kSeq_nx, kSeq_rt, kSeq_xc, kSeq_bk, kSeq_ct, r_clr, kClr_nx, kClr_rt, kClr_xc, kClr_bk, kClr_ct, clr_nil, clr_cons, r_set, kSet_ok, kSet_exc, r_expr, kExpr_ok, kExpr_exc, r_ret, kRet_ok, kRet_exc, r_retN, r_if, kSIf_t, kSIf_f, kSIf_exc, r_brk, r_cont, r_for, kFor_ok,
  kItA_ok, kIt_some, r_itL, r_itT, r_itS, r_itR1, r_itR2, r_itEn, r_asg, kAsg_ok, sTgO_some, tgM_nm, setAllM_nil, setAllM_cons, r_aug, kAug1_ok, kAug2_ok, r_fs, kFS1_ok, kFS2_ok, nxO_some, r_sl1, kSL1_ok, kSL2_ok, kSL3_ok, r_fnB, kFn_nx, kFn_rt, kFn_xc, r_lc, kLc_ok, r_yes, r_tgtp, kTg_ok, r_items, r_itemsT, kItems_ok, r_self, kSelf_ok, r_isiR, kIsi_ok, r_ty, kTy_l, r_getF, kGetF_ok, kLk_ok, lk_yes, r_setF, r_itLl, kItL_ok, r_isL, kIsL_ok, r_lApp, kApp_ok, r_getI, kGetI_ok, r_getIT, r_setI, kSetI_ok, kStO_ok, r_while, r_bm0, kBM0_ok, r_lClear, kClear_ok, r_len, kLen_ok, len_tup, r_sl4, kSl4_ok, stepQ_nx, stepQ_ct, stepQ_bk, stepQ_rt, stepQ_xc,
  Res.bind_ok, Res.bind_exc, Res.bind_stuck,
  List.map_cons, List.map_nil, List.length_cons, List.length_nil, List.replicate_succ, List.replicate_zero, List.cons_append, List.nil_append, List.append_nil, List.set_cons_succ, List.set_cons_zero, List.getElem?_cons_succ, List.getElem?_cons_zero,
  Nat.reduceAdd, Nat.reduceSub, Nat.zero_add, Nat.sub_self, Bool.not_true, Bool.not_false, eq_self_iff_true, Int.zero_add, R2.obj, R2.ins, lk_no f3, lk_no f4, add_int, ix, List.set_set]
      refine ⟨by omega, by first | rfl | trivial, ?_⟩
      rw [nons_succ, fillL_snoc, nons_len]
    · rintro ρ S' ⟨_, rfl, rfl⟩
      rfl
  subst hres
  simp -implicitDefEqProofs only [r_var, kVar_ok, r_c, r_op2, kOpA_ok, kOpA_exc, kOpB_ok, kOpB_exc, r_test, r_asB, r_and, r_or, r_not, kAnd_t, kAnd_f, kAnd_exc, kOr_t, kOr_f, kOr_exc, kNot_ok, kNot_exc, r_mand, r_mor, r_mnot, kMAnd_t, kMAnd_f, kMOr_t, kMOr_f, kMNot_ok, r_ife, kIfE_t, kIfE_f, kIfE_exc,
  r_anil, r_acons, kArg_ok, kArg_exc, kArgs_ok, kArgs_exc, r_tup, r_lst, r_fld, r_call, kCall_ok, kCall_exc, r_call0, noX_ok, r_meth, kM1_ok, kM1_exc, kM2_ok, kM2_stuck, kM3_ok, kM3_exc, r_meth0, kN1_ok, kN1_exc, kN2_ok, kN2_stuck, r_make, kMake_ok, mkEnd_ok, r_cb, r_isi, r_bm, kBM1_ok, kBM2_ok, r_alt, kAlt_ok, kAlt_exc, kAlt_stuck,
  r_sl, kSl1_ok, kSl2_ok, kSl3_ok, r_ptN, r_ptS, optI_ok, r_nil, r_seq, kSeq_nx, kSeq_rt, kSeq_xc, kSeq_bk, kSeq_ct, r_clr, kClr_nx, kClr_rt, kClr_xc, kClr_bk, kClr_ct, clr_nil, clr_cons, r_set, kSet_ok, kSet_exc, r_expr, kExpr_ok, kExpr_exc, r_ret, kRet_ok, kRet_exc, r_retN, r_if, kSIf_t, kSIf_f, kSIf_exc, r_brk, r_cont, r_for, kFor_ok,
  kItA_ok, kIt_some, r_itL, r_itT, r_itS, r_itR1, r_itR2, r_itEn, r_asg, kAsg_ok, sTgO_some, tgM_nm, setAllM_nil, setAllM_cons, r_aug, kAug1_ok, kAug2_ok, r_fs, kFS1_ok, kFS2_ok, nxO_some, r_sl1, kSL1_ok, kSL2_ok, kSL3_ok, r_fnB, kFn_nx, kFn_rt, kFn_xc, r_lc, kLc_ok, r_yes, r_tgtp, kTg_ok, r_items, r_itemsT, kItems_ok, r_self, kSelf_ok, r_isiR, kIsi_ok, r_ty, kTy_l, r_getF, kGetF_ok, kLk_ok, lk_yes, r_setF, r_itLl, kItL_ok, r_isL, kIsL_ok, r_lApp, kApp_ok, r_getI, kGetI_ok, r_getIT, r_setI, kSetI_ok, kStO_ok, r_while, r_bm0, kBM0_ok, r_lClear, kClear_ok, r_len, kLen_ok, len_tup, r_sl4, kSl4_ok, stepQ_nx, stepQ_ct, stepQ_bk, stepQ_rt, stepQ_xc,
  Res.bind_ok, Res.bind_exc, Res.bind_stuck,
  List.map_cons, List.map_nil, List.length_cons, List.length_nil, List.replicate_succ, List.replicate_zero, List.cons_append, List.nil_append, List.append_nil, List.set_cons_succ, List.set_cons_zero, List.getElem?_cons_succ, List.getElem?_cons_zero,
  Nat.reduceAdd, Nat.reduceSub, Nat.zero_add, Nat.sub_self, Bool.not_true, Bool.not_false, eq_self_iff_true]
def BothAt (S : Sto) (r l li many cells : Nat) (xs : List D) : Prop := RoomsAt S r l many cells xs ∧ S[li]? = some (.lst false xs) ∧ li ≠ l ∧ li ≠ r
theorem BothAt.upd {S : Sto} {r l li many cells : Nat} {xs ys : List D} (B : BothAt S r l li many cells xs) (h : ys.length = xs.length) : BothAt ((S.set l (.lst false ys)).set li (.lst false ys)) r l li many cells ys := by
  obtain ⟨R, hi, h1, h2⟩ := B
  have R' := R.upd h
  refine ⟨⟨set_get_ne R'.obj h2, set_get_ne R'.ins h1, R'.len, R'.sm, R'.sc⟩, ?_, h1, h2⟩
  exact set_get_self (set_get_ne hi h1.symm)
theorem BothAt.pre {S S' : Sto} {r l li many cells : Nat} {xs : List D} (B : BothAt S r l li many cells xs) (h : S <+: S') : BothAt S' r l li many cells xs :=
  ⟨B.1.pre h, pfx_get h B.2.1, B.2.2.1, B.2.2.2⟩
theorem nat_log {k n : Nat} (hk : 0 < k) (h : k < 2 ^ n) (hn : n ≤ 9000) : (k : Int).natAbs.log2 < 9000 := log2_lt (n := n) (by omega) (by simpa using h) hn
/-- a value that is plain data wherever it stands -/
def okv (x : D) : Prop := ∃ p : PyData, (∀ S n, pd S (n + 1) x = some p) ∧ p.canLay0 = true
def okvs (xs : List D) : Prop := ∀ x, x ∈ xs → okv x
theorem okv_non : okv .non := ⟨.none, fun _ _ => pd_non, rfl⟩
theorem okv_int (i : Int) : okv (.int i) := ⟨.int i, fun _ _ => pd_int, rfl⟩
theorem okv_thing (i : Int) : okv (.tup [.str "thing", .int i]) :=
  ⟨.tuple [.str "thing", .int i], fun _ _ => pd_tup (optAll_cons pd_str (optAll_cons pd_int rfl)), by simp only [PyData.canLay0, PyData.canLayAll0, Bool.and_true]; decide +kernel⟩
theorem okvs_pd : ∀ {xs : List D}, okvs xs → ∃ ps : List PyData, (∀ S n, optAll (pd S (n + 1)) xs = some ps) ∧ PyData.canLayAll0 ps = true
  | [], _ => ⟨[], fun _ _ => rfl, rfl⟩
  | x :: xs, h => by
    obtain ⟨ps, h1, h2⟩ := okvs_pd (xs := xs) fun y hy => h y (List.mem_cons_of_mem _ hy)
    obtain ⟨p, e, l⟩ := h x List.mem_cons_self
    exact ⟨p :: ps, fun S n => optAll_cons (e S n) (h1 S n), by simp only [PyData.canLayAll0, l, h2, Bool.and_self]⟩
theorem ne_okvs {S : Sto} {a b : Nat} {f g : Bool} {xs : List D} (hp : okvs xs) (h1 : S[a]? = some (.lst f xs)) (h2 : S[b]? = some (.lst g xs)) : neR (.loc a) (.loc b) S = .ok (.bl false) S := by
  obtain ⟨ps, e, hl⟩ := okvs_pd hp
  exact neR_same (pd_loc h1 (e S 6)) (pd_loc h2 (e S 6)) (by simp only [PyData.canLay0]; exact hl)
theorem eq_okv {S : Sto} {x : D} (h : okv x) : eqR x x S = .ok (.bl true) S := by
  obtain ⟨p, e, l⟩ := h
  exact eqR_same (e S 7) (e S 7) l
theorem fillL_okvs : ∀ {vs xs : List D} {p : Nat}, okvs xs → okvs vs → okvs (fillL xs p vs)
  | [], _, _, h, _ => h
  | v :: vs, xs, p, h, hv => by
    rw [fillL]
    refine fillL_okvs ?_ (fun x hx => hv x (List.mem_cons_of_mem _ hx))
    intro x hx
    rcases List.mem_or_eq_of_mem_set hx with z | z
    · exact h x z
    · rw [z]; exact hv v List.mem_cons_self
def reps (v : D) (n : Nat) : List D := List.replicate n v
theorem reps_len {v : D} {n : Nat} : (reps v n).length = n := List.length_replicate
theorem reps_succ {v : D} {n : Nat} : reps v (n + 1) = reps v n ++ [v] := List.replicate_succ'
theorem reps_okvs {v : D} {n : Nat} (h : okv v) : okvs (reps v n) := fun x hx => by rw [List.eq_of_mem_replicate hx]; exact h
theorem run_spec {S : Sto} {li cells p most : Nat} {full : Bool} {xs : List D} (hi : S[li]? = some (.lst false xs)) (hc : 0 < cells) (hc2 : cells < 2 ^ 20) (hp : p ≤ xs.length) (hm : most ≤ 1000) :
    ∃ k : Nat, f_law_run [.loc li, .int cells, .int p, .int most, .bl full] S = .ok (.int (k : Int)) S ∧ p + k ≤ xs.length ∧ k ≤ most := by
  unfold f_law_run b_law_run
  simp -implicitDefEqProofs only [r_var, kVar_ok, r_c, r_op2, kOpA_ok, kOpA_exc, kOpB_ok, kOpB_exc, r_test, r_asB, r_and, r_or, r_not, kAnd_t, kAnd_f, kAnd_exc, kOr_t, kOr_f, kOr_exc, kNot_ok, kNot_exc, r_mand, r_mor, r_mnot, kMAnd_t, kMAnd_f, kMOr_t, kMOr_f, kMNot_ok, r_ife, kIfE_t, kIfE_f, kIfE_exc,
  r_anil, r_acons, kArg_ok, kArg_exc, kArgs_ok, kArgs_exc, r_tup, r_lst, r_fld, r_call, kCall_ok, kCall_exc, r_call0, noX_ok, r_meth, kM1_ok, kM1_exc, kM2_ok, kM2_stuck, kM3_ok, kM3_exc, r_meth0, kN1_ok, kN1_exc, kN2_ok, kN2_stuck, r_make, kMake_ok, mkEnd_ok, r_cb, r_isi, r_bm, kBM1_ok, kBM2_ok, r_alt, kAlt_ok, kAlt_exc, kAlt_stuck,
  r_sl, kSl1_ok, kSl2_ok, kSl3_ok, r_ptN, r_ptS, optI_ok, r_nil, r_seq, kSeq_nx, kSeq_rt, kSeq_xc, kSeq_bk, kSeq_ct, r_clr, kClr_nx, kClr_rt, kClr_xc, kClr_bk, kClr_ct, clr_nil, clr_cons, r_set, kSet_ok, kSet_exc, r_expr, kExpr_ok, kExpr_exc, r_ret, kRet_ok, kRet_exc, r_retN, r_if, kSIf_t, kSIf_f, kSIf_exc, r_brk, r_cont, r_for, kFor_ok,
  kItA_ok, kIt_some, r_itL, r_itT, r_itS, r_itR1, r_itR2, r_itEn, r_asg, kAsg_ok, sTgO_some, tgM_nm, setAllM_nil, setAllM_cons, r_aug, kAug1_ok, kAug2_ok, r_fs, kFS1_ok, kFS2_ok, nxO_some, r_sl1, kSL1_ok, kSL2_ok, kSL3_ok, r_fnB, kFn_nx, kFn_rt, kFn_xc, r_lc, kLc_ok, r_yes, r_tgtp, kTg_ok, r_items, r_itemsT, kItems_ok, r_self, kSelf_ok, r_isiR, kIsi_ok, r_ty, kTy_l, r_getF, kGetF_ok, kLk_ok, lk_yes, r_setF, r_itLl, kItL_ok, r_isL, kIsL_ok, r_lApp, kApp_ok, r_getI, kGetI_ok, r_getIT, r_setI, kSetI_ok, kStO_ok, r_while, r_bm0, kBM0_ok, r_lClear, kClear_ok, r_len, kLen_ok, len_tup, r_sl4, kSl4_ok, stepQ_nx, stepQ_ct, stepQ_bk, stepQ_rt, stepQ_xc,
  Res.bind_ok, Res.bind_exc, Res.bind_stuck,
  List.map_cons, List.map_nil, List.length_cons, List.length_nil, List.replicate_succ, List.replicate_zero, List.cons_append, List.nil_append, List.append_nil, List.set_cons_succ, List.set_cons_zero, List.getElem?_cons_succ, List.getElem?_cons_zero,
  Nat.reduceAdd, Nat.reduceSub, Nat.zero_add, Nat.sub_self, Bool.not_true, Bool.not_false, eq_self_iff_true]
  generalize hw : whileN _ _ _ _ _ = res
  have fd := fun (i : Int) S => fdiv_int (S := S) (i := i) (j := (cells : Int)) (by omega) (nat_log hc hc2 (by decide))
  have hres : ∃ k : Nat, p + k ≤ xs.length ∧ k ≤ most ∧ (res = .nx [some (.loc li), some (.int cells), some (.int p), some (.int most), some (.bl full), some (.int (k : Int))] S ∨ res = .rt (.int (k : Int)) S) := by
    refine whileI' hw (fun m ρ S' => ∃ k : Nat, m = most - k ∧ p + k ≤ xs.length ∧ k ≤ most ∧ ρ = [some (.loc li), some (.int cells), some (.int p), some (.int most), some (.bl full), some (.int (k : Int))] ∧ S' = S)
      (fun res => ∃ k : Nat, p + k ≤ xs.length ∧ k ≤ most ∧ (res = .nx [some (.loc li), some (.int cells), some (.int p), some (.int most), some (.bl full), some (.int (k : Int))] S ∨ res = .rt (.int (k : Int)) S)) most (by omega) ⟨0, rfl, by omega, by omega, rfl, rfl⟩ ?_
    rintro m ρ S' ⟨k, rfl, hk1, hk2, rfl, rfl⟩
    by_cases c1 : k < most
    · have d1 : decide ((k : Int) < (most : Int)) = true := decide_eq_true (by omega)
      by_cases c2 : p + k < xs.length
      · have d2 : decide ((p : Int) + (k : Int) < (xs.length : Int)) = true := decide_eq_true (by omega)
        refine ⟨decide (((p : Int) + (k : Int)) / (cells : Int) = (p : Int) / (cells : Int)), S', ?_, fun _ => ⟨k, hk1, hk2, .inl rfl⟩, fun _ => ?_⟩
        · simp -implicitDefEqProofs only [r_var, kVar_ok, r_c, r_op2, kOpA_ok, kOpA_exc, kOpB_ok, kOpB_exc, r_test, r_asB, r_and, r_or, r_not, kAnd_t, kAnd_f, kAnd_exc, kOr_t, kOr_f, kOr_exc, kNot_ok, kNot_exc, r_mand, r_mor, r_mnot, kMAnd_t, kMAnd_f, kMOr_t, kMOr_f, kMNot_ok, r_ife, kIfE_t, kIfE_f, kIfE_exc,
  r_anil, r_acons, kArg_ok, kArg_exc, kArgs_ok, kArgs_exc, r_tup, r_lst, r_fld, r_call, kCall_ok, kCall_exc, r_call0, noX_ok, r_meth, kM1_ok, kM1_exc, kM2_ok, kM2_stuck, kM3_ok, kM3_exc, r_meth0, kN1_ok, kN1_exc, kN2_ok, kN2_stuck, r_make, kMake_ok, mkEnd_ok, r_cb, r_isi, r_bm, kBM1_ok, kBM2_ok, r_alt, kAlt_ok, kAlt_exc, kAlt_stuck,
  r_sl, kSl1_ok, kSl2_ok, kSl3_ok, r_ptN, r_ptS, optI_ok, r_nil, r_seq, kSeq_nx, kSeq_rt, kSeq_xc, kSeq_bk, kSeq_ct, r_clr, kClr_nx, kClr_rt, kClr_xc, kClr_bk, kClr_ct, clr_nil, clr_cons, r_set, kSet_ok, kSet_exc, r_expr, kExpr_ok, kExpr_exc, r_ret, kRet_ok, kRet_exc, r_retN, r_if, kSIf_t, kSIf_f, kSIf_exc, r_brk, r_cont, r_for, kFor_ok,
  kItA_ok, kIt_some, r_itL, r_itT, r_itS, r_itR1, r_itR2, r_itEn, r_asg, kAsg_ok, sTgO_some, tgM_nm, setAllM_nil, setAllM_cons, r_aug, kAug1_ok, kAug2_ok, r_fs, kFS1_ok, kFS2_ok, nxO_some, r_sl1, kSL1_ok, kSL2_ok, kSL3_ok, r_fnB, kFn_nx, kFn_rt, kFn_xc, r_lc, kLc_ok, r_yes, r_tgtp, kTg_ok, r_items, r_itemsT, kItems_ok, r_self, kSelf_ok, r_isiR, kIsi_ok, r_ty, kTy_l, r_getF, kGetF_ok, kLk_ok, lk_yes, r_setF, r_itLl, kItL_ok, r_isL, kIsL_ok, r_lApp, kApp_ok, r_getI, kGetI_ok, r_getIT, r_setI, kSetI_ok, kStO_ok, r_while, r_bm0, kBM0_ok, r_lClear, kClear_ok, r_len, kLen_ok, len_tup, r_sl4, kSl4_ok, stepQ_nx, stepQ_ct, stepQ_bk, stepQ_rt, stepQ_xc,
  Res.bind_ok, Res.bind_exc, Res.bind_stuck,
  List.map_cons, List.map_nil, List.length_cons, List.length_nil, List.replicate_succ, List.replicate_zero, List.cons_append, List.nil_append, List.append_nil, List.set_cons_succ, List.set_cons_zero, List.getElem?_cons_succ, List.getElem?_cons_zero,
  Nat.reduceAdd, Nat.reduceSub, Nat.zero_add, Nat.sub_self, Bool.not_true, Bool.not_false, eq_self_iff_true, lt_int, d1, add_int, hi, d2, fd, eq_int]
        · obtain ⟨x, hx⟩ : ∃ x, xs[p + k]? = some x := ⟨_, List.getElem?_eq_getElem c2⟩
          have gi : atI xs ((p : Int) + (k : Int)) = some x := by rw [← Int.natCast_add]; exact atI_nat hx
          simp -implicitDefEqProofs only [r_var, kVar_ok, r_c, r_op2, kOpA_ok, kOpA_exc, kOpB_ok, kOpB_exc, r_test, r_asB, r_and, r_or, r_not, kAnd_t, kAnd_f, kAnd_exc, kOr_t, kOr_f, kOr_exc, kNot_ok, kNot_exc, r_mand, r_mor, r_mnot, kMAnd_t, kMAnd_f, kMOr_t, kMOr_f, kMNot_ok, r_ife, kIfE_t, kIfE_f, kIfE_exc,
  r_anil, r_acons, kArg_ok, kArg_exc, kArgs_ok, kArgs_exc, r_tup, r_lst, r_fld, r_call, kCall_ok, kCall_exc, r_call0, noX_ok, r_meth, kM1_ok, kM1_exc, kM2_ok, kM2_stuck, kM3_ok, kM3_exc, r_meth0, kN1_ok, kN1_exc, kN2_ok, kN2_stuck, r_make, kMake_ok, mkEnd_ok, r_cb, r_isi, r_bm, kBM1_ok, kBM2_ok, r_alt, kAlt_ok, kAlt_exc, kAlt_stuck,
  r_sl, kSl1_ok, kSl2_ok, kSl3_ok, r_ptN, r_ptS, optI_ok, r_nil, r_seq, kSeq_nx, kSeq_rt, kSeq_xc, kSeq_bk, kSeq_ct, r_clr, kClr_nx, kClr_rt, kClr_xc, kClr_bk, kClr_ct, clr_nil, clr_cons, r_set, kSet_ok, kSet_exc, r_expr, kExpr_ok, kExpr_exc, r_ret, kRet_ok, kRet_exc, r_retN, r_if, kSIf_t, kSIf_f, kSIf_exc, r_brk, r_cont, r_for, kFor_ok,
  kItA_ok, kIt_some, r_itL, r_itT, r_itS, r_itR1, r_itR2, r_itEn, r_asg, kAsg_ok, sTgO_some, tgM_nm, setAllM_nil, setAllM_cons, r_aug, kAug1_ok, kAug2_ok, r_fs, kFS1_ok, kFS2_ok, nxO_some, r_sl1, kSL1_ok, kSL2_ok, kSL3_ok, r_fnB, kFn_nx, kFn_rt, kFn_xc, r_lc, kLc_ok, r_yes, r_tgtp, kTg_ok, r_items, r_itemsT, kItems_ok, r_self, kSelf_ok, r_isiR, kIsi_ok, r_ty, kTy_l, r_getF, kGetF_ok, kLk_ok, lk_yes, r_setF, r_itLl, kItL_ok, r_isL, kIsL_ok, r_lApp, kApp_ok, r_getI, kGetI_ok, r_getIT, r_setI, kSetI_ok, kStO_ok, r_while, r_bm0, kBM0_ok, r_lClear, kClear_ok, r_len, kLen_ok, len_tup, r_sl4, kSl4_ok, stepQ_nx, stepQ_ct, stepQ_bk, stepQ_rt, stepQ_xc,
  Res.bind_ok, Res.bind_exc, Res.bind_stuck,
  List.map_cons, List.map_nil, List.length_cons, List.length_nil, List.replicate_succ, List.replicate_zero, List.cons_append, List.nil_append, List.append_nil, List.set_cons_succ, List.set_cons_zero, List.getElem?_cons_succ, List.getElem?_cons_zero,
  Nat.reduceAdd, Nat.reduceSub, Nat.zero_add, Nat.sub_self, Bool.not_true, Bool.not_false, eq_self_iff_true, add_int, hi, gi, isNot_non, ne_bl]
          cases hb : !decide ((!x.isN) = full) with
          | true =>
            simp -implicitDefEqProofs only [r_var, kVar_ok, r_c, r_op2, kOpA_ok, kOpA_exc, kOpB_ok, kOpB_exc, r_test, r_asB, r_and, r_or, r_not, kAnd_t, kAnd_f, kAnd_exc, kOr_t, kOr_f, kOr_exc, kNot_ok, kNot_exc, r_mand, r_mor, r_mnot, kMAnd_t, kMAnd_f, kMOr_t, kMOr_f, kMNot_ok, r_ife, kIfE_t, kIfE_f, kIfE_exc,
  r_anil, r_acons, kArg_ok, kArg_exc, kArgs_ok, kArgs_exc, r_tup, r_lst, r_fld, r_call, kCall_ok, kCall_exc, r_call0, noX_ok, r_meth, kM1_ok, kM1_exc, kM2_ok, kM2_stuck, kM3_ok, kM3_exc, r_meth0, kN1_ok, kN1_exc, kN2_ok, kN2_stuck, r_make, kMake_ok, mkEnd_ok, r_cb, r_isi, r_bm, kBM1_ok, kBM2_ok, r_alt, kAlt_ok, kAlt_exc, kAlt_stuck,
  r_sl, kSl1_ok, kSl2_ok, kSl3_ok, r_ptN, r_ptS, optI_ok, r_nil, r_seq, kSeq_nx, kSeq_rt, kSeq_xc, kSeq_bk, kSeq_ct, r_clr, kClr_nx, kClr_rt, kClr_xc, kClr_bk, kClr_ct, clr_nil, clr_cons, r_set, kSet_ok, kSet_exc, r_expr, kExpr_ok, kExpr_exc, r_ret, kRet_ok, kRet_exc, r_retN, r_if, kSIf_t, kSIf_f, kSIf_exc, r_brk, r_cont, r_for, kFor_ok,
  kItA_ok, kIt_some, r_itL, r_itT, r_itS, r_itR1, r_itR2, r_itEn, r_asg, kAsg_ok, sTgO_some, tgM_nm, setAllM_nil, setAllM_cons, r_aug, kAug1_ok, kAug2_ok, r_fs, kFS1_ok, kFS2_ok, nxO_some, r_sl1, kSL1_ok, kSL2_ok, kSL3_ok, r_fnB, kFn_nx, kFn_rt, kFn_xc, r_lc, kLc_ok, r_yes, r_tgtp, kTg_ok, r_items, r_itemsT, kItems_ok, r_self, kSelf_ok, r_isiR, kIsi_ok, r_ty, kTy_l, r_getF, kGetF_ok, kLk_ok, lk_yes, r_setF, r_itLl, kItL_ok, r_isL, kIsL_ok, r_lApp, kApp_ok, r_getI, kGetI_ok, r_getIT, r_setI, kSetI_ok, kStO_ok, r_while, r_bm0, kBM0_ok, r_lClear, kClear_ok, r_len, kLen_ok, len_tup, r_sl4, kSl4_ok, stepQ_nx, stepQ_ct, stepQ_bk, stepQ_rt, stepQ_xc,
  Res.bind_ok, Res.bind_exc, Res.bind_stuck,
  List.map_cons, List.map_nil, List.length_cons, List.length_nil, List.replicate_succ, List.replicate_zero, List.cons_append, List.nil_append, List.append_nil, List.set_cons_succ, List.set_cons_zero, List.getElem?_cons_succ, List.getElem?_cons_zero,
  Nat.reduceAdd, Nat.reduceSub, Nat.zero_add, Nat.sub_self, Bool.not_true, Bool.not_false, eq_self_iff_true]
            exact ⟨k, hk1, hk2, .inr rfl⟩
          | false =>
            simp -implicitDefEqProofs only [r_var, kVar_ok, r_c, r_op2, kOpA_ok, kOpA_exc, kOpB_ok, kOpB_exc, r_test, r_asB, r_and, r_or, r_not, kAnd_t, kAnd_f, kAnd_exc, kOr_t, kOr_f, kOr_exc, kNot_ok, kNot_exc, r_mand, r_mor, r_mnot, kMAnd_t, kMAnd_f, kMOr_t, kMOr_f, kMNot_ok, r_ife, kIfE_t, kIfE_f, kIfE_exc,
  r_anil, r_acons, kArg_ok, kArg_exc, kArgs_ok, kArgs_exc, r_tup, r_lst, r_fld, r_call, kCall_ok, kCall_exc, r_call0, noX_ok, r_meth, kM1_ok, kM1_exc, kM2_ok, kM2_stuck, kM3_ok, kM3_exc, r_meth0, kN1_ok, kN1_exc, kN2_ok, kN2_stuck, r_make, kMake_ok, mkEnd_ok, r_cb, r_isi, r_bm, kBM1_ok, kBM2_ok, r_alt, kAlt_ok, kAlt_exc, kAlt_stuck,
  r_sl, kSl1_ok, kSl2_ok, kSl3_ok, r_ptN, r_ptS, optI_ok, r_nil, r_seq, kSeq_nx, kSeq_rt, kSeq_xc, kSeq_bk, kSeq_ct, r_clr, kClr_nx, kClr_rt, kClr_xc, kClr_bk, kClr_ct, clr_nil, clr_cons, r_set, kSet_ok, kSet_exc, r_expr, kExpr_ok, kExpr_exc, r_ret, kRet_ok, kRet_exc, r_retN, r_if, kSIf_t, kSIf_f, kSIf_exc, r_brk, r_cont, r_for, kFor_ok,
  kItA_ok, kIt_some, r_itL, r_itT, r_itS, r_itR1, r_itR2, r_itEn, r_asg, kAsg_ok, sTgO_some, tgM_nm, setAllM_nil, setAllM_cons, r_aug, kAug1_ok, kAug2_ok, r_fs, kFS1_ok, kFS2_ok, nxO_some, r_sl1, kSL1_ok, kSL2_ok, kSL3_ok, r_fnB, kFn_nx, kFn_rt, kFn_xc, r_lc, kLc_ok, r_yes, r_tgtp, kTg_ok, r_items, r_itemsT, kItems_ok, r_self, kSelf_ok, r_isiR, kIsi_ok, r_ty, kTy_l, r_getF, kGetF_ok, kLk_ok, lk_yes, r_setF, r_itLl, kItL_ok, r_isL, kIsL_ok, r_lApp, kApp_ok, r_getI, kGetI_ok, r_getIT, r_setI, kSetI_ok, kStO_ok, r_while, r_bm0, kBM0_ok, r_lClear, kClear_ok, r_len, kLen_ok, len_tup, r_sl4, kSl4_ok, stepQ_nx, stepQ_ct, stepQ_bk, stepQ_rt, stepQ_xc,
  Res.bind_ok, Res.bind_exc, Res.bind_stuck,
  List.map_cons, List.map_nil, List.length_cons, List.length_nil, List.replicate_succ, List.replicate_zero, List.cons_append, List.nil_append, List.append_nil, List.set_cons_succ, List.set_cons_zero, List.getElem?_cons_succ, List.getElem?_cons_zero,
  Nat.reduceAdd, Nat.reduceSub, Nat.zero_add, Nat.sub_self, Bool.not_true, Bool.not_false, eq_self_iff_true, add_int]
            exact ⟨most - (k + 1), by omega, k + 1, rfl, by omega, by omega, rfl, by first | rfl | trivial⟩
      · have d2 : decide ((p : Int) + (k : Int) < (xs.length : Int)) = false := decide_eq_false (by omega)
        refine ⟨false, S', ?_, fun _ => ⟨k, hk1, hk2, .inl rfl⟩, fun z => nomatch z⟩
        simp -implicitDefEqProofs only [r_var, kVar_ok, r_c, r_op2, kOpA_ok, kOpA_exc, kOpB_ok, kOpB_exc, r_test, r_asB, r_and, r_or, r_not, kAnd_t, kAnd_f, kAnd_exc, kOr_t, kOr_f, kOr_exc, kNot_ok, kNot_exc, r_mand, r_mor, r_mnot, kMAnd_t, kMAnd_f, kMOr_t, kMOr_f, kMNot_ok, r_ife, kIfE_t, kIfE_f, kIfE_exc,
  r_anil, r_acons, kArg_ok, kArg_exc, kArgs_ok, kArgs_exc, r_tup, r_lst, r_fld, r_call, kCall_ok, kCall_exc, r_call0, noX_ok, r_meth, kM1_ok, kM1_exc, kM2_ok, kM2_stuck, kM3_ok, kM3_exc, r_meth0, kN1_ok, kN1_exc, kN2_ok, kN2_stuck, r_make, kMake_ok, mkEnd_ok, r_cb, r_isi, r_bm, kBM1_ok, kBM2_ok, r_alt, kAlt_ok, kAlt_exc, kAlt_stuck,
  r_sl, kSl1_ok, kSl2_ok, kSl3_ok, r_ptN, r_ptS, optI_ok, r_nil, r_seq, kSeq_nx, kSeq_rt, kSeq_xc, kSeq_bk, kSeq_ct, r_clr, kClr_nx, kClr_rt, kClr_xc, kClr_bk, kClr_ct, clr_nil, clr_cons, r_set, kSet_ok, kSet_exc, r_expr, kExpr_ok, kExpr_exc, r_ret, kRet_ok, kRet_exc, r_retN, r_if, kSIf_t, kSIf_f, kSIf_exc, r_brk, r_cont, r_for, kFor_ok,
  kItA_ok, kIt_some, r_itL, r_itT, r_itS, r_itR1, r_itR2, r_itEn, r_asg, kAsg_ok, sTgO_some, tgM_nm, setAllM_nil, setAllM_cons, r_aug, kAug1_ok, kAug2_ok, r_fs, kFS1_ok, kFS2_ok, nxO_some, r_sl1, kSL1_ok, kSL2_ok, kSL3_ok, r_fnB, kFn_nx, kFn_rt, kFn_xc, r_lc, kLc_ok, r_yes, r_tgtp, kTg_ok, r_items, r_itemsT, kItems_ok, r_self, kSelf_ok, r_isiR, kIsi_ok, r_ty, kTy_l, r_getF, kGetF_ok, kLk_ok, lk_yes, r_setF, r_itLl, kItL_ok, r_isL, kIsL_ok, r_lApp, kApp_ok, r_getI, kGetI_ok, r_getIT, r_setI, kSetI_ok, kStO_ok, r_while, r_bm0, kBM0_ok, r_lClear, kClear_ok, r_len, kLen_ok, len_tup, r_sl4, kSl4_ok, stepQ_nx, stepQ_ct, stepQ_bk, stepQ_rt, stepQ_xc,
  Res.bind_ok, Res.bind_exc, Res.bind_stuck,
  List.map_cons, List.map_nil, List.length_cons, List.length_nil, List.replicate_succ, List.replicate_zero, List.cons_append, List.nil_append, List.append_nil, List.set_cons_succ, List.set_cons_zero, List.getElem?_cons_succ, List.getElem?_cons_zero,
  Nat.reduceAdd, Nat.reduceSub, Nat.zero_add, Nat.sub_self, Bool.not_true, Bool.not_false, eq_self_iff_true, lt_int, d1, add_int, hi, d2]
    · have d1 : decide ((k : Int) < (most : Int)) = false := decide_eq_false (by omega)
      refine ⟨false, S', ?_, fun _ => ⟨k, hk1, hk2, .inl rfl⟩, fun z => nomatch z⟩
      simp -implicitDefEqProofs only [r_var, kVar_ok, r_c, r_op2, kOpA_ok, kOpA_exc, kOpB_ok, kOpB_exc, r_test, r_asB, r_and, r_or, r_not, kAnd_t, kAnd_f, kAnd_exc, kOr_t, kOr_f, kOr_exc, kNot_ok, kNot_exc, r_mand, r_mor, r_mnot, kMAnd_t, kMAnd_f, kMOr_t, kMOr_f, kMNot_ok, r_ife, kIfE_t, kIfE_f, kIfE_exc,
  r_anil, r_acons, kArg_ok, kArg_exc, kArgs_ok, kArgs_exc, r_tup, r_lst, r_fld, r_call, kCall_ok, kCall_exc, r_call0, noX_ok, r_meth, kM1_ok, kM1_exc, kM2_ok, kM2_stuck, kM3_ok, kM3_exc, r_meth0, kN1_ok, kN1_exc, kN2_ok, kN2_stuck, r_make, kMake_ok, mkEnd_ok, r_cb, r_isi, r_bm, kBM1_ok, kBM2_ok, r_alt, kAlt_ok, kAlt_exc, kAlt_stuck,
  r_sl, kSl1_ok, kSl2_ok, kSl3_ok, r_ptN, r_ptS, optI_ok, r_nil, r_seq, kSeq_nx, kSeq_rt, kSeq_xc, kSeq_bk, kSeq_ct, r_clr, kClr_nx, kClr_rt, kClr_xc, kClr_bk, kClr_ct, clr_nil, clr_cons, r_set, kSet_ok, kSet_exc, r_expr, kExpr_ok, kExpr_exc, r_ret, kRet_ok, kRet_exc, r_retN, r_if, kSIf_t, kSIf_f, kSIf_exc, r_brk, r_cont, r_for, kFor_ok,
  kItA_ok, kIt_some, r_itL, r_itT, r_itS, r_itR1, r_itR2, r_itEn, r_asg, kAsg_ok, sTgO_some, tgM_nm, setAllM_nil, setAllM_cons, r_aug, kAug1_ok, kAug2_ok, r_fs, kFS1_ok, kFS2_ok, nxO_some, r_sl1, kSL1_ok, kSL2_ok, kSL3_ok, r_fnB, kFn_nx, kFn_rt, kFn_xc, r_lc, kLc_ok, r_yes, r_tgtp, kTg_ok, r_items, r_itemsT, kItems_ok, r_self, kSelf_ok, r_isiR, kIsi_ok, r_ty, kTy_l, r_getF, kGetF_ok, kLk_ok, lk_yes, r_setF, r_itLl, kItL_ok, r_isL, kIsL_ok, r_lApp, kApp_ok, r_getI, kGetI_ok, r_getIT, r_setI, kSetI_ok, kStO_ok, r_while, r_bm0, kBM0_ok, r_lClear, kClear_ok, r_len, kLen_ok, len_tup, r_sl4, kSl4_ok, stepQ_nx, stepQ_ct, stepQ_bk, stepQ_rt, stepQ_xc,
  Res.bind_ok, Res.bind_exc, Res.bind_stuck,
  List.map_cons, List.map_nil, List.length_cons, List.length_nil, List.replicate_succ, List.replicate_zero, List.cons_append, List.nil_append, List.append_nil, List.set_cons_succ, List.set_cons_zero, List.getElem?_cons_succ, List.getElem?_cons_zero,
  Nat.reduceAdd, Nat.reduceSub, Nat.zero_add, Nat.sub_self, Bool.not_true, Bool.not_false, eq_self_iff_true, lt_int, d1]
  obtain ⟨k, h1, h2, rfl | rfl⟩ := hres
  · exact ⟨k, by simp -implicitDefEqProofs only [r_var, kVar_ok, r_c, r_op2, kOpA_ok, kOpA_exc, kOpB_ok, kOpB_exc, r_test, r_asB, r_and, r_or, r_not, kAnd_t, kAnd_f, kAnd_exc, kOr_t, kOr_f, kOr_exc, kNot_ok, kNot_exc, r_mand, r_mor, r_mnot, kMAnd_t, kMAnd_f, kMOr_t, kMOr_f, kMNot_ok, r_ife, kIfE_t, kIfE_f, kIfE_exc,
  r_anil, r_acons, kArg_ok, kArg_exc, kArgs_ok, kArgs_exc, r_tup, r_lst, r_fld, r_call, kCall_ok, kCall_exc, r_call0, noX_ok, r_meth, kM1_ok, kM1_exc, kM2_ok, kM2_stuck, kM3_ok, kM3_exc, r_meth0, kN1_ok, kN1_exc, kN2_ok, kN2_stuck, r_make, kMake_ok, mkEnd_ok, r_cb, r_isi, r_bm, kBM1_ok, kBM2_ok, r_alt, kAlt_ok, kAlt_exc, kAlt_stuck,
  r_sl, kSl1_ok, kSl2_ok, kSl3_ok, r_ptN, r_ptS, optI_ok, r_nil, r_seq, kSeq_nx, kSeq_rt, kSeq_xc, kSeq_bk, kSeq_ct, r_clr, kClr_nx, kClr_rt, kClr_xc, kClr_bk, kClr_ct, clr_nil, clr_cons, r_set, kSet_ok, kSet_exc, r_expr, kExpr_ok, kExpr_exc, r_ret, kRet_ok, kRet_exc, r_retN, r_if, kSIf_t, kSIf_f, kSIf_exc, r_brk, r_cont, r_for, kFor_ok,
  kItA_ok, kIt_some, r_itL, r_itT, r_itS, r_itR1, r_itR2, r_itEn, r_asg, kAsg_ok, sTgO_some, tgM_nm, setAllM_nil, setAllM_cons, r_aug, kAug1_ok, kAug2_ok, r_fs, kFS1_ok, kFS2_ok, nxO_some, r_sl1, kSL1_ok, kSL2_ok, kSL3_ok, r_fnB, kFn_nx, kFn_rt, kFn_xc, r_lc, kLc_ok, r_yes, r_tgtp, kTg_ok, r_items, r_itemsT, kItems_ok, r_self, kSelf_ok, r_isiR, kIsi_ok, r_ty, kTy_l, r_getF, kGetF_ok, kLk_ok, lk_yes, r_setF, r_itLl, kItL_ok, r_isL, kIsL_ok, r_lApp, kApp_ok, r_getI, kGetI_ok, r_getIT, r_setI, kSetI_ok, kStO_ok, r_while, r_bm0, kBM0_ok, r_lClear, kClear_ok, r_len, kLen_ok, len_tup, r_sl4, kSl4_ok, stepQ_nx, stepQ_ct, stepQ_bk, stepQ_rt, stepQ_xc,
  Res.bind_ok, Res.bind_exc, Res.bind_stuck,
  List.map_cons, List.map_nil, List.length_cons, List.length_nil, List.replicate_succ, List.replicate_zero, List.cons_append, List.nil_append, List.append_nil, List.set_cons_succ, List.set_cons_zero, List.getElem?_cons_succ, List.getElem?_cons_zero,
  Nat.reduceAdd, Nat.reduceSub, Nat.zero_add, Nat.sub_self, Bool.not_true, Bool.not_false, eq_self_iff_true], h1, h2⟩
  · exact ⟨k, by simp -implicitDefEqProofs only [r_var, kVar_ok, r_c, r_op2, kOpA_ok, kOpA_exc, kOpB_ok, kOpB_exc, r_test, r_asB, r_and, r_or, r_not, kAnd_t, kAnd_f, kAnd_exc, kOr_t, kOr_f, kOr_exc, kNot_ok, kNot_exc, r_mand, r_mor, r_mnot, kMAnd_t, kMAnd_f, kMOr_t, kMOr_f, kMNot_ok, r_ife, kIfE_t, kIfE_f, kIfE_exc,
  r_anil, r_acons, kArg_ok, kArg_exc, kArgs_ok, kArgs_exc, r_tup, r_lst, r_fld, r_call, kCall_ok, kCall_exc, r_call0, noX_ok, r_meth, kM1_ok, kM1_exc, kM2_ok, kM2_stuck, kM3_ok, kM3_exc, r_meth0, kN1_ok, kN1_exc, kN2_ok, kN2_stuck, r_make, kMake_ok, mkEnd_ok, r_cb, r_isi, r_bm, kBM1_ok, kBM2_ok, r_alt, kAlt_ok, kAlt_exc, kAlt_stuck,
  r_sl, kSl1_ok, kSl2_ok, kSl3_ok, r_ptN, r_ptS, optI_ok, r_nil, r_seq, kSeq_nx, kSeq_rt, kSeq_xc, kSeq_bk, kSeq_ct, r_clr, kClr_nx, kClr_rt, kClr_xc, kClr_bk, kClr_ct, clr_nil, clr_cons, r_set, kSet_ok, kSet_exc, r_expr, kExpr_ok, kExpr_exc, r_ret, kRet_ok, kRet_exc, r_retN, r_if, kSIf_t, kSIf_f, kSIf_exc, r_brk, r_cont, r_for, kFor_ok,
  kItA_ok, kIt_some, r_itL, r_itT, r_itS, r_itR1, r_itR2, r_itEn, r_asg, kAsg_ok, sTgO_some, tgM_nm, setAllM_nil, setAllM_cons, r_aug, kAug1_ok, kAug2_ok, r_fs, kFS1_ok, kFS2_ok, nxO_some, r_sl1, kSL1_ok, kSL2_ok, kSL3_ok, r_fnB, kFn_nx, kFn_rt, kFn_xc, r_lc, kLc_ok, r_yes, r_tgtp, kTg_ok, r_items, r_itemsT, kItems_ok, r_self, kSelf_ok, r_isiR, kIsi_ok, r_ty, kTy_l, r_getF, kGetF_ok, kLk_ok, lk_yes, r_setF, r_itLl, kItL_ok, r_isL, kIsL_ok, r_lApp, kApp_ok, r_getI, kGetI_ok, r_getIT, r_setI, kSetI_ok, kStO_ok, r_while, r_bm0, kBM0_ok, r_lClear, kClear_ok, r_len, kLen_ok, len_tup, r_sl4, kSl4_ok, stepQ_nx, stepQ_ct, stepQ_bk, stepQ_rt, stepQ_xc,
  Res.bind_ok, Res.bind_exc, Res.bind_stuck,
  List.map_cons, List.map_nil, List.length_cons, List.length_nil, List.replicate_succ, List.replicate_zero, List.cons_append, List.nil_append, List.append_nil, List.set_cons_succ, List.set_cons_zero, List.getElem?_cons_succ, List.getElem?_cons_zero,
  Nat.reduceAdd, Nat.reduceSub, Nat.zero_add, Nat.sub_self, Bool.not_true, Bool.not_false, eq_self_iff_true], h1, h2⟩
theorem read_spec {S : Sto} {r l many cells p : Nat} {xs : List D} {x : D} (R : RoomsAt S r l many cells xs) (hx : xs[p]? = some x) : f_Rooms_read [.loc r, .int (p : Int)] S = .ok x S := by
  have f3 : (Fl.inside == Fl.many) = false := by decide
  have f4 : (Fl.inside == Fl.cells) = false := by decide
  unfold f_Rooms_read b_Rooms_read
  simp -implicitDefEqProofs only [r_var, kVar_ok, r_c, r_op2, kOpA_ok, kOpA_exc, kOpB_ok, kOpB_exc, r_test, r_asB, r_and, r_or, r_not, kAnd_t, kAnd_f, kAnd_exc, kOr_t, kOr_f, kOr_exc, kNot_ok, kNot_exc, r_mand, r_mor, r_mnot, kMAnd_t, kMAnd_f, kMOr_t, kMOr_f, kMNot_ok, r_ife, kIfE_t, kIfE_f, kIfE_exc,
  r_anil, r_acons, kArg_ok, kArg_exc, kArgs_ok, kArgs_exc, r_tup, r_lst, r_fld, r_call, kCall_ok, kCall_exc, r_call0, noX_ok, r_meth, kM1_ok, kM1_exc, kM2_ok, kM2_stuck, kM3_ok, kM3_exc, r_meth0, kN1_ok, kN1_exc, kN2_ok, kN2_stuck, r_make, kMake_ok, mkEnd_ok, r_cb, r_isi, r_bm, kBM1_ok, kBM2_ok, r_alt, kAlt_ok, kAlt_exc, kAlt_stuck,
  r_sl, kSl1_ok, kSl2_ok, kSl3_ok, r_ptN, r_ptS, optI_ok, r_nil, r_seq, kSeq_nx, kSeq_rt, kSeq_xc, kSeq_bk, kSeq_ct, r_clr, kClr_nx, kClr_rt, kClr_xc, kClr_bk, kClr_ct, clr_nil, clr_cons, r_set, kSet_ok, kSet_exc, r_expr, kExpr_ok, kExpr_exc, r_ret, kRet_ok, kRet_exc, r_retN, r_if, kSIf_t, kSIf_f, kSIf_exc, r_brk, r_cont, r_for, kFor_ok,
  kItA_ok, kIt_some, r_itL, r_itT, r_itS, r_itR1, r_itR2, r_itEn, r_asg, kAsg_ok, sTgO_some, tgM_nm, setAllM_nil, setAllM_cons, r_aug, kAug1_ok, kAug2_ok, r_fs, kFS1_ok, kFS2_ok, nxO_some, r_sl1, kSL1_ok, kSL2_ok, kSL3_ok, r_fnB, kFn_nx, kFn_rt, kFn_xc, r_lc, kLc_ok, r_yes, r_tgtp, kTg_ok, r_items, r_itemsT, kItems_ok, r_self, kSelf_ok, r_isiR, kIsi_ok, r_ty, kTy_l, r_getF, kGetF_ok, kLk_ok, lk_yes, r_setF, r_itLl, kItL_ok, r_isL, kIsL_ok, r_lApp, kApp_ok, r_getI, kGetI_ok, r_getIT, r_setI, kSetI_ok, kStO_ok, r_while, r_bm0, kBM0_ok, r_lClear, kClear_ok, r_len, kLen_ok, len_tup, r_sl4, kSl4_ok, stepQ_nx, stepQ_ct, stepQ_bk, stepQ_rt, stepQ_xc,
  Res.bind_ok, Res.bind_exc, Res.bind_stuck,
  List.map_cons, List.map_nil, List.length_cons, List.length_nil, List.replicate_succ, List.replicate_zero, List.cons_append, List.nil_append, List.append_nil, List.set_cons_succ, List.set_cons_zero, List.getElem?_cons_succ, List.getElem?_cons_zero,
  Nat.reduceAdd, Nat.reduceSub, Nat.zero_add, Nat.sub_self, Bool.not_true, Bool.not_false, eq_self_iff_true, R.obj, R.ins, lk_no f3, lk_no f4, atI_nat hx]
theorem write_spec {S : Sto} {r l many cells p : Nat} {xs : List D} {x : D} (R : RoomsAt S r l many cells xs) (hp : p < xs.length) : f_Rooms_write [.loc r, .int (p : Int), x] S = .ok .non (S.set l (.lst false (xs.set p x))) := by
  have f3 : (Fl.inside == Fl.many) = false := by decide
  have f4 : (Fl.inside == Fl.cells) = false := by decide
  unfold f_Rooms_write b_Rooms_write
  simp -implicitDefEqProofs only [r_var, kVar_ok, r_c, r_op2, kOpA_ok, kOpA_exc, kOpB_ok, kOpB_exc, r_test, r_asB, r_and, r_or, r_not, kAnd_t, kAnd_f, kAnd_exc, kOr_t, kOr_f, kOr_exc, kNot_ok, kNot_exc, r_mand, r_mor, r_mnot, kMAnd_t, kMAnd_f, kMOr_t, kMOr_f, kMNot_ok, r_ife, kIfE_t, kIfE_f, kIfE_exc,
  r_anil, r_acons, kArg_ok, kArg_exc, kArgs_ok, kArgs_exc, r_tup, r_lst, r_fld, r_call, kCall_ok, kCall_exc, r_call0, noX_ok, r_meth, kM1_ok, kM1_exc, kM2_ok, kM2_stuck, kM3_ok, kM3_exc, r_meth0, kN1_ok, kN1_exc, kN2_ok, kN2_stuck, r_make, kMake_ok, mkEnd_ok, r_cb, r_isi, r_bm, kBM1_ok, kBM2_ok, r_alt, kAlt_ok, kAlt_exc, kAlt_stuck,
  r_sl, kSl1_ok, kSl2_ok, kSl3_ok, r_ptN, r_ptS, optI_ok, r_nil, r_seq, kSeq_nx, kSeq_rt, kSeq_xc, kSeq_bk, kSeq_ct, r_clr, kClr_nx, kClr_rt, kClr_xc, kClr_bk, kClr_ct, clr_nil, clr_cons, r_set, kSet_ok, kSet_exc, r_expr, kExpr_ok, kExpr_exc, r_ret, kRet_ok, kRet_exc, r_retN, r_if, kSIf_t, kSIf_f, kSIf_exc, r_brk, r_cont, r_for, kFor_ok,
  kItA_ok, kIt_some, r_itL, r_itT, r_itS, r_itR1, r_itR2, r_itEn, r_asg, kAsg_ok, sTgO_some, tgM_nm, setAllM_nil, setAllM_cons, r_aug, kAug1_ok, kAug2_ok, r_fs, kFS1_ok, kFS2_ok, nxO_some, r_sl1, kSL1_ok, kSL2_ok, kSL3_ok, r_fnB, kFn_nx, kFn_rt, kFn_xc, r_lc, kLc_ok, r_yes, r_tgtp, kTg_ok, r_items, r_itemsT, kItems_ok, r_self, kSelf_ok, r_isiR, kIsi_ok, r_ty, kTy_l, r_getF, kGetF_ok, kLk_ok, lk_yes, r_setF, r_itLl, kItL_ok, r_isL, kIsL_ok, r_lApp, kApp_ok, r_getI, kGetI_ok, r_getIT, r_setI, kSetI_ok, kStO_ok, r_while, r_bm0, kBM0_ok, r_lClear, kClear_ok, r_len, kLen_ok, len_tup, r_sl4, kSl4_ok, stepQ_nx, stepQ_ct, stepQ_bk, stepQ_rt, stepQ_xc,
  Res.bind_ok, Res.bind_exc, Res.bind_stuck,
  List.map_cons, List.map_nil, List.length_cons, List.length_nil, List.replicate_succ, List.replicate_zero, List.cons_append, List.nil_append, List.append_nil, List.set_cons_succ, List.set_cons_zero, List.getElem?_cons_succ, List.getElem?_cons_zero,
  Nat.reduceAdd, Nat.reduceSub, Nat.zero_add, Nat.sub_self, Bool.not_true, Bool.not_false, eq_self_iff_true, R.obj, R.ins, lk_no f3, lk_no f4, ixN_lt hp]
/-- the law's own list is filled alike -/
theorem own_fill {S : Sto} {li p k : Nat} {v : D} {xs : List D} {m : Nat} {r : SR} {body : MSt} (ρ : Rho) (hρ : ρ.length = 14) (hi : S[li]? = some (.lst false xs)) (hk : p + k ≤ xs.length)
    (hr : forGo ⟨rngGet 0 k, m⟩ (.nm 13) body (k + 1) 0 ρ S = r) (h13 : ρ.set 13 none = ρ)
    (hb : ∀ i S' ys, i < k → ys.length = xs.length → S'[li]? = some (.lst false ys) → body (ρ.set 13 (some (.int ((0 : Int) + (i : Int))))) S' = .nx ρ (S'.set li (.lst false (ys.set (p + i) v)))) : r = .nx ρ (S.set li (.lst false (fillL xs p (reps v k)))) := by
  refine forR hr (fun i ρ' S' => i ≤ k ∧ ρ' = ρ ∧ S' = S.set li (.lst false (fillL xs p (reps v i)))) (fun r => r = .nx ρ (S.set li (.lst false (fillL xs p (reps v k))))) (by omega) ⟨by omega, rfl, ?_⟩ ?_ ?_
  · rw [show reps v 0 = [] from rfl, fillL]
    obtain ⟨hlt, e⟩ := List.getElem?_eq_some_iff.mp hi
    rw [← e, List.set_getElem_self]
  · rintro i ρ' S' hi2 ⟨_, rfl, rfl⟩
    refine ⟨_, rfl, ?_⟩
    rw [hb i _ (fillL xs p (reps v i)) hi2 fillL_len (set_get_self hi), stepQ_nx, List.set_set]
    refine ⟨by omega, rfl, ?_⟩
    rw [reps_succ, fillL_snoc, reps_len]
  · rintro ρ' S' ⟨_, rfl, rfl⟩
    rfl
theorem done_spec {S : Sto} {r l li lp many cells : Nat} {xs : List D} {w a n g s : Int} (B : BothAt S r l li many cells xs) (hok : okvs xs) (hc : 0 < cells) (hx : 0 < xs.length) (hx2 : xs.length ≤ 1000) (hp : S[lp]? = some (.lst false [.int w, .int a, .int n, .int g, .int s])) (hn : 0 ≤ n ∧ n < 9) (hs : s = 0 ∨ s = 1) :
    ∃ S' ys, f_law_done [.loc r, .loc li, .int cells, .loc lp] S = .ok (.bl true) S' ∧ BothAt S' r l li many cells ys ∧ okvs ys ∧ Fr [l, li] S S' := by
  obtain ⟨p, ep, hpl⟩ : ∃ p : Nat, a % (xs.length : Int) = (p : Int) ∧ p < xs.length := by
    have h1 := Int.emod_nonneg a (show (xs.length : Int) ≠ 0 by omega)
    have h2 := Int.emod_lt_of_pos a (show (0 : Int) < (xs.length : Int) by omega)
    exact ⟨(a % (xs.length : Int)).toNat, by omega, by omega⟩
  obtain ⟨N, hN⟩ : ∃ N : Nat, 1 + n = (N : Int) := ⟨(1 + n).toNat, by omega⟩
  have md := fun S => mod_int (S := S) (i := a) (j := (xs.length : Int)) (by omega)
  obtain ⟨v, hv, hvo⟩ : ∃ v, (∀ S, kLk (atI [D.int g, .tup [.str "thing", .int g]] s) S = .ok v S) ∧ okv v := by
    rcases hs with rfl | rfl
    · exact ⟨.int g, fun _ => rfl, okv_int g⟩
    · exact ⟨_, fun _ => rfl, okv_thing g⟩
  obtain ⟨S1, hS1⟩ : ∃ S1, S1 = S ++ [O.lst false [.int g, .tup [.str "thing", .int g]]] := ⟨_, rfl⟩
  have p1 : S <+: S1 := ⟨_, hS1.symm⟩
  have B1 := B.pre p1
  have g1 : S1[S.length]? = some (.lst false [.int g, .tup [.str "thing", .int g]]) := by rw [hS1, at_z]; rfl
  have ll : l < S.length := get_lt B.1.ins
  have lli : li < S.length := get_lt B.2.1
  have len1 : S1.length = S.length + 1 := by rw [hS1]; simp
  obtain ⟨x, hx0⟩ : ∃ x, xs[p]? = some x := ⟨_, List.getElem?_eq_getElem hpl⟩
  unfold f_law_done b_law_done
  simp -implicitDefEqProofs only [r_var, kVar_ok, r_c, r_op2, kOpA_ok, kOpA_exc, kOpB_ok, kOpB_exc, r_test, r_asB, r_and, r_or, r_not, kAnd_t, kAnd_f, kAnd_exc, kOr_t, kOr_f, kOr_exc, kNot_ok, kNot_exc, r_mand, r_mor, r_mnot, kMAnd_t, kMAnd_f, kMOr_t, kMOr_f, kMNot_ok, r_ife, kIfE_t, kIfE_f, kIfE_exc,
  r_anil, r_acons, kArg_ok, kArg_exc, kArgs_ok, kArgs_exc, r_tup, r_lst, r_fld, r_call, kCall_ok, kCall_exc, r_call0, noX_ok, r_meth, kM1_ok, kM1_exc, kM2_ok, kM2_stuck, kM3_ok, kM3_exc, r_meth0, kN1_ok, kN1_exc, kN2_ok, kN2_stuck, r_make, kMake_ok, mkEnd_ok, r_cb, r_isi, r_bm, kBM1_ok, kBM2_ok, r_alt, kAlt_ok, kAlt_exc, kAlt_stuck,
  r_sl, kSl1_ok, kSl2_ok, kSl3_ok, r_ptN, r_ptS, optI_ok, r_nil, r_seq, kSeq_nx, kSeq_rt, kSeq_xc, kSeq_bk, kSeq_ct, r_clr, kClr_nx, kClr_rt, kClr_xc, kClr_bk, kClr_ct, clr_nil, clr_cons, r_set, kSet_ok, kSet_exc, r_expr, kExpr_ok, kExpr_exc, r_ret, kRet_ok, kRet_exc, r_retN, r_if, kSIf_t, kSIf_f, kSIf_exc, r_brk, r_cont, r_for, kFor_ok,
  kItA_ok, kIt_some, r_itL, r_itT, r_itS, r_itR1, r_itR2, r_itEn, r_asg, kAsg_ok, sTgO_some, tgM_nm, setAllM_nil, setAllM_cons, r_aug, kAug1_ok, kAug2_ok, r_fs, kFS1_ok, kFS2_ok, nxO_some, r_sl1, kSL1_ok, kSL2_ok, kSL3_ok, r_fnB, kFn_nx, kFn_rt, kFn_xc, r_lc, kLc_ok, r_yes, r_tgtp, kTg_ok, r_items, r_itemsT, kItems_ok, r_self, kSelf_ok, r_isiR, kIsi_ok, r_ty, kTy_l, r_getF, kGetF_ok, kLk_ok, lk_yes, r_setF, r_itLl, kItL_ok, r_isL, kIsL_ok, r_lApp, kApp_ok, r_getI, kGetI_ok, r_getIT, r_setI, kSetI_ok, kStO_ok, r_while, r_bm0, kBM0_ok, r_lClear, kClear_ok, r_len, kLen_ok, len_tup, r_sl4, kSl4_ok, stepQ_nx, stepQ_ct, stepQ_bk, stepQ_rt, stepQ_xc,
  Res.bind_ok, Res.bind_exc, Res.bind_stuck,
  List.map_cons, List.map_nil, List.length_cons, List.length_nil, List.replicate_succ, List.replicate_zero, List.cons_append, List.nil_append, List.append_nil, List.set_cons_succ, List.set_cons_zero, List.getElem?_cons_succ, List.getElem?_cons_zero,
  Nat.reduceAdd, Nat.reduceSub, Nat.zero_add, Nat.sub_self, Bool.not_true, Bool.not_false, eq_self_iff_true, hp, B.2.1, md, ep, tupD_ok, lstD_ok, Nat.reduceLeDiff, ← hS1, g1, hv, lt_int]
  clear hS1
  generalize hi : kClr _ _ = res
  have hres : ∃ S2 ys, res = .nx [some (.loc r), some (.loc li), some (.int cells), some (.loc lp), some (.int w), some (.int a), some (.int n), some (.int g), some (.int s), some (.int (p : Int)), some v, none, none, none] S2 ∧ BothAt S2 r l li many cells ys ∧ okvs ys ∧ Fr [l, li] S S2 := by
    rw [← hi]
    clear hi
    have ax := atI_nat hx0
    have hfin : ∀ (S2 : Sto) (k : Nat) (u : D), BothAt S2 r l li many cells xs → okv u → Fr [l, li] S S2 → BothAt ((S2.set l (.lst false (fillL xs p (reps u k)))).set li (.lst false (fillL xs p (reps u k)))) r l li many cells (fillL xs p (reps u k)) ∧ okvs (fillL xs p (reps u k)) ∧ Fr [l, li] S ((S2.set l (.lst false (fillL xs p (reps u k)))).set li (.lst false (fillL xs p (reps u k)))) :=
      fun S2 k u b o f => ⟨b.upd fillL_len, fillL_okvs hok (reps_okvs o), (f.trans (.set (by simp))).trans (.set (by simp))⟩
    by_cases c1 : w < 2 ∧ x = .non
    · obtain ⟨c1, rfl⟩ := c1
      have d1 : decide (w < 2) = true := decide_eq_true c1
      obtain ⟨k, qk, hk1, hk2⟩ := run_spec (full := false) B1.2.1 hc B.1.sc (Nat.le_of_lt hpl) (show N ≤ 1000 by omega)
      obtain ⟨Sa, hSa⟩ : ∃ Sa, Sa = S1 ++ [O.lst false [v]] := ⟨_, rfl⟩
      obtain ⟨Sb, hSb⟩ : ∃ Sb, Sb = Sa ++ [O.lst false (reps v k)] := ⟨_, rfl⟩
      have ga : Sa[S1.length]? = some (.lst false [v]) := by rw [hSa, at_z]; rfl
      have gb : Sb[Sa.length]? = some (.lst false (reps v k)) := by rw [hSb, at_z]; rfl
      have la : Sa.length = S1.length + 1 := by rw [hSa]; simp
      have pb : S <+: Sb := by rw [hSb, hSa]; exact pfx_app (pfx_app p1)
      have rep : mulD (.loc S1.length) (.int (k : Int)) Sa = .ok (.loc Sa.length) Sb := by
        rw [r_rep, ga, kRep_nat (by omega), hSb]; rfl
      have Bb := B.pre pb
      have fs := fill_in_spec Bb.1 (p := p) gb (by omega) (by rw [reps_len]; exact hk1)
      obtain ⟨Sc, hSc⟩ : ∃ Sc, Sc = Sb.set l (.lst false (fillL xs p (reps v k))) := ⟨_, rfl⟩
      rw [← hSc] at fs
      have gc : Sc[Sa.length]? = some (.lst false (reps v k)) := by rw [hSc]; exact set_get_ne gb (by omega)
      have gd : (Sc.set Sa.length (.lst false []))[li]? = some (.lst false xs) := by
        rw [hSc]; exact set_get_ne (set_get_ne Bb.2.1 Bb.2.2.1.symm) (by omega)
      have tk : (k : Int).toNat = k := Int.toNat_natCast k
      simp -implicitDefEqProofs only [r_var, kVar_ok, r_c, r_op2, kOpA_ok, kOpA_exc, kOpB_ok, kOpB_exc, r_test, r_asB, r_and, r_or, r_not, kAnd_t, kAnd_f, kAnd_exc, kOr_t, kOr_f, kOr_exc, kNot_ok, kNot_exc, r_mand, r_mor, r_mnot, kMAnd_t, kMAnd_f, kMOr_t, kMOr_f, kMNot_ok, r_ife, kIfE_t, kIfE_f, kIfE_exc,
  r_anil, r_acons, kArg_ok, kArg_exc, kArgs_ok, kArgs_exc, r_tup, r_lst, r_fld, r_call, kCall_ok, kCall_exc, r_call0, noX_ok, r_meth, kM1_ok, kM1_exc, kM2_ok, kM2_stuck, kM3_ok, kM3_exc, r_meth0, kN1_ok, kN1_exc, kN2_ok, kN2_stuck, r_make, kMake_ok, mkEnd_ok, r_cb, r_isi, r_bm, kBM1_ok, kBM2_ok, r_alt, kAlt_ok, kAlt_exc, kAlt_stuck,
  r_sl, kSl1_ok, kSl2_ok, kSl3_ok, r_ptN, r_ptS, optI_ok, r_nil, r_seq, kSeq_nx, kSeq_rt, kSeq_xc, kSeq_bk, kSeq_ct, r_clr, kClr_nx, kClr_rt, kClr_xc, kClr_bk, kClr_ct, clr_nil, clr_cons, r_set, kSet_ok, kSet_exc, r_expr, kExpr_ok, kExpr_exc, r_ret, kRet_ok, kRet_exc, r_retN, r_if, kSIf_t, kSIf_f, kSIf_exc, r_brk, r_cont, r_for, kFor_ok,
  kItA_ok, kIt_some, r_itL, r_itT, r_itS, r_itR1, r_itR2, r_itEn, r_asg, kAsg_ok, sTgO_some, tgM_nm, setAllM_nil, setAllM_cons, r_aug, kAug1_ok, kAug2_ok, r_fs, kFS1_ok, kFS2_ok, nxO_some, r_sl1, kSL1_ok, kSL2_ok, kSL3_ok, r_fnB, kFn_nx, kFn_rt, kFn_xc, r_lc, kLc_ok, r_yes, r_tgtp, kTg_ok, r_items, r_itemsT, kItems_ok, r_self, kSelf_ok, r_isiR, kIsi_ok, r_ty, kTy_l, r_getF, kGetF_ok, kLk_ok, lk_yes, r_setF, r_itLl, kItL_ok, r_isL, kIsL_ok, r_lApp, kApp_ok, r_getI, kGetI_ok, r_getIT, r_setI, kSetI_ok, kStO_ok, r_while, r_bm0, kBM0_ok, r_lClear, kClear_ok, r_len, kLen_ok, len_tup, r_sl4, kSl4_ok, stepQ_nx, stepQ_ct, stepQ_bk, stepQ_rt, stepQ_xc,
  Res.bind_ok, Res.bind_exc, Res.bind_stuck,
  List.map_cons, List.map_nil, List.length_cons, List.length_nil, List.replicate_succ, List.replicate_zero, List.cons_append, List.nil_append, List.append_nil, List.set_cons_succ, List.set_cons_zero, List.getElem?_cons_succ, List.getElem?_cons_zero,
  Nat.reduceAdd, Nat.reduceSub, Nat.zero_add, Nat.sub_self, Bool.not_true, Bool.not_false, eq_self_iff_true, B1.2.1, ax, is_non, isN_non, d1, add_int, hN, qk, lstD_ok, Nat.reduceLeDiff, ← hSa, rep, Bb.1.obj, fs, gc, itR1_ok (show (0 : Int) ≤ (k : Int) by omega) (show (k : Int) < 2 ^ 62 by omega), tk]
      clear hSa
      generalize hf : forGo _ _ _ _ _ _ _ = rr
      have hrr := own_fill (v := v) (k := k) (p := p) (xs := xs) (li := li) [some (.loc r), some (.loc li), some (.int cells), some (.loc lp), some (.int w), some (.int a), some (.int n), some (.int g), some (.int s), some (.int (p : Int)), some v, some (.int (k : Int)), some (.loc Sa.length), none] rfl gd hk1 hf rfl (by
        intro i S' ys hi hl hS'
        have ix : ixN ys.length ((p : Int) + (i : Int)) = some (p + i) := by
          rw [← Int.natCast_add]
          exact ixN_lt (by omega)
        simp -implicitDefEqProofs only [r_var, kVar_ok, r_c, r_op2, kOpA_ok, kOpA_exc, kOpB_ok, kOpB_exc, r_test, r_asB, r_and, r_or, r_not, kAnd_t, kAnd_f, kAnd_exc, kOr_t, kOr_f, kOr_exc, kNot_ok, kNot_exc, r_mand, r_mor, r_mnot, kMAnd_t, kMAnd_f, kMOr_t, kMOr_f, kMNot_ok, r_ife, kIfE_t, kIfE_f, kIfE_exc,
  r_anil, r_acons, kArg_ok, kArg_exc, kArgs_ok, kArgs_exc, r_tup, r_lst, r_fld, r_call, kCall_ok, kCall_exc, r_call0, noX_ok, r_meth, kM1_ok, kM1_exc, kM2_ok, kM2_stuck, kM3_ok, kM3_exc, r_meth0, kN1_ok, kN1_exc, kN2_ok, kN2_stuck, r_make, kMake_ok, mkEnd_ok, r_cb, r_isi, r_bm, kBM1_ok, kBM2_ok, r_alt, kAlt_ok, kAlt_exc, kAlt_stuck,
  r_sl, kSl1_ok, kSl2_ok, kSl3_ok, r_ptN, r_ptS, optI_ok, r_nil, r_seq, kSeq_nx, kSeq_rt, kSeq_xc, kSeq_bk, kSeq_ct, r_clr, kClr_nx, kClr_rt, kClr_xc, kClr_bk, kClr_ct, clr_nil, clr_cons, r_set, kSet_ok, kSet_exc, r_expr, kExpr_ok, kExpr_exc, r_ret, kRet_ok, kRet_exc, r_retN, r_if, kSIf_t, kSIf_f, kSIf_exc, r_brk, r_cont, r_for, kFor_ok,
  kItA_ok, kIt_some, r_itL, r_itT, r_itS, r_itR1, r_itR2, r_itEn, r_asg, kAsg_ok, sTgO_some, tgM_nm, setAllM_nil, setAllM_cons, r_aug, kAug1_ok, kAug2_ok, r_fs, kFS1_ok, kFS2_ok, nxO_some, r_sl1, kSL1_ok, kSL2_ok, kSL3_ok, r_fnB, kFn_nx, kFn_rt, kFn_xc, r_lc, kLc_ok, r_yes, r_tgtp, kTg_ok, r_items, r_itemsT, kItems_ok, r_self, kSelf_ok, r_isiR, kIsi_ok, r_ty, kTy_l, r_getF, kGetF_ok, kLk_ok, lk_yes, r_setF, r_itLl, kItL_ok, r_isL, kIsL_ok, r_lApp, kApp_ok, r_getI, kGetI_ok, r_getIT, r_setI, kSetI_ok, kStO_ok, r_while, r_bm0, kBM0_ok, r_lClear, kClear_ok, r_len, kLen_ok, len_tup, r_sl4, kSl4_ok, stepQ_nx, stepQ_ct, stepQ_bk, stepQ_rt, stepQ_xc,
  Res.bind_ok, Res.bind_exc, Res.bind_stuck,
  List.map_cons, List.map_nil, List.length_cons, List.length_nil, List.replicate_succ, List.replicate_zero, List.cons_append, List.nil_append, List.append_nil, List.set_cons_succ, List.set_cons_zero, List.getElem?_cons_succ, List.getElem?_cons_zero,
  Nat.reduceAdd, Nat.reduceSub, Nat.zero_add, Nat.sub_self, Bool.not_true, Bool.not_false, eq_self_iff_true, Int.zero_add, hS', add_int, ix])
      subst hrr
      simp -implicitDefEqProofs only [r_var, kVar_ok, r_c, r_op2, kOpA_ok, kOpA_exc, kOpB_ok, kOpB_exc, r_test, r_asB, r_and, r_or, r_not, kAnd_t, kAnd_f, kAnd_exc, kOr_t, kOr_f, kOr_exc, kNot_ok, kNot_exc, r_mand, r_mor, r_mnot, kMAnd_t, kMAnd_f, kMOr_t, kMOr_f, kMNot_ok, r_ife, kIfE_t, kIfE_f, kIfE_exc,
  r_anil, r_acons, kArg_ok, kArg_exc, kArgs_ok, kArgs_exc, r_tup, r_lst, r_fld, r_call, kCall_ok, kCall_exc, r_call0, noX_ok, r_meth, kM1_ok, kM1_exc, kM2_ok, kM2_stuck, kM3_ok, kM3_exc, r_meth0, kN1_ok, kN1_exc, kN2_ok, kN2_stuck, r_make, kMake_ok, mkEnd_ok, r_cb, r_isi, r_bm, kBM1_ok, kBM2_ok, r_alt, kAlt_ok, kAlt_exc, kAlt_stuck,
  r_sl, kSl1_ok, kSl2_ok, kSl3_ok, r_ptN, r_ptS, optI_ok, r_nil, r_seq, kSeq_nx, kSeq_rt, kSeq_xc, kSeq_bk, kSeq_ct, r_clr, kClr_nx, kClr_rt, kClr_xc, kClr_bk, kClr_ct, clr_nil, clr_cons, r_set, kSet_ok, kSet_exc, r_expr, kExpr_ok, kExpr_exc, r_ret, kRet_ok, kRet_exc, r_retN, r_if, kSIf_t, kSIf_f, kSIf_exc, r_brk, r_cont, r_for, kFor_ok,
  kItA_ok, kIt_some, r_itL, r_itT, r_itS, r_itR1, r_itR2, r_itEn, r_asg, kAsg_ok, sTgO_some, tgM_nm, setAllM_nil, setAllM_cons, r_aug, kAug1_ok, kAug2_ok, r_fs, kFS1_ok, kFS2_ok, nxO_some, r_sl1, kSL1_ok, kSL2_ok, kSL3_ok, r_fnB, kFn_nx, kFn_rt, kFn_xc, r_lc, kLc_ok, r_yes, r_tgtp, kTg_ok, r_items, r_itemsT, kItems_ok, r_self, kSelf_ok, r_isiR, kIsi_ok, r_ty, kTy_l, r_getF, kGetF_ok, kLk_ok, lk_yes, r_setF, r_itLl, kItL_ok, r_isL, kIsL_ok, r_lApp, kApp_ok, r_getI, kGetI_ok, r_getIT, r_setI, kSetI_ok, kStO_ok, r_while, r_bm0, kBM0_ok, r_lClear, kClear_ok, r_len, kLen_ok, len_tup, r_sl4, kSl4_ok, stepQ_nx, stepQ_ct, stepQ_bk, stepQ_rt, stepQ_xc,
  Res.bind_ok, Res.bind_exc, Res.bind_stuck,
  List.map_cons, List.map_nil, List.length_cons, List.length_nil, List.replicate_succ, List.replicate_zero, List.cons_append, List.nil_append, List.append_nil, List.set_cons_succ, List.set_cons_zero, List.getElem?_cons_succ, List.getElem?_cons_zero,
  Nat.reduceAdd, Nat.reduceSub, Nat.zero_add, Nat.sub_self, Bool.not_true, Bool.not_false, eq_self_iff_true]
      have e1 : ((Sc.set Sa.length (.lst false [])).set li (.lst false (fillL xs p (reps v k)))) = (((Sb.set Sa.length (.lst false [])).set l (.lst false (fillL xs p (reps v k)))).set li (.lst false (fillL xs p (reps v k)))) := by
        rw [hSc, List.set_comm _ _ (show l ≠ Sa.length by omega)]
      rw [e1]
      have Bx : BothAt (Sb.set Sa.length (.lst false [])) r l li many cells xs := by
        have lr : r < S.length := get_lt B.1.obj
        exact ⟨⟨set_get_ne Bb.1.obj (by omega), set_get_ne Bb.1.ins (by omega), B.1.len, B.1.sm, B.1.sc⟩, set_get_ne Bb.2.1 (by omega), B.2.2.1, B.2.2.2⟩
      have Fx : Fr [l, li] S (Sb.set Sa.length (.lst false [])) := .pfx (pfx_set pb (by omega))
      exact ⟨_, _, rfl, hfin _ k v Bx hvo Fx⟩
    · by_cases c2 : w = 2 ∧ x ≠ .non
      · obtain ⟨c2, c3⟩ := c2
        have hn : x.isN = false := by
          cases h : x.isN with
          | false => rfl
          | true => exact absurd (isN_iff.mp h) c3
        obtain ⟨k, qk, hk1, hk2⟩ := run_spec (full := true) B1.2.1 hc B.1.sc (Nat.le_of_lt hpl) (show N ≤ 1000 by omega)
        have d1 : decide (w < 2) = false := decide_eq_false (by omega)
        have d2 : decide (w = 2) = true := decide_eq_true c2
        have sf := set_free_spec B1.1 hk1 (by omega)
        have gd : (S1.set l (.lst false (fillL xs p (nons k))))[li]? = some (.lst false xs) := set_get_ne B1.2.1 B1.2.2.1.symm
        have tk : (k : Int).toNat = k := Int.toNat_natCast k
        simp -implicitDefEqProofs only [r_var, kVar_ok, r_c, r_op2, kOpA_ok, kOpA_exc, kOpB_ok, kOpB_exc, r_test, r_asB, r_and, r_or, r_not, kAnd_t, kAnd_f, kAnd_exc, kOr_t, kOr_f, kOr_exc, kNot_ok, kNot_exc, r_mand, r_mor, r_mnot, kMAnd_t, kMAnd_f, kMOr_t, kMOr_f, kMNot_ok, r_ife, kIfE_t, kIfE_f, kIfE_exc,
  r_anil, r_acons, kArg_ok, kArg_exc, kArgs_ok, kArgs_exc, r_tup, r_lst, r_fld, r_call, kCall_ok, kCall_exc, r_call0, noX_ok, r_meth, kM1_ok, kM1_exc, kM2_ok, kM2_stuck, kM3_ok, kM3_exc, r_meth0, kN1_ok, kN1_exc, kN2_ok, kN2_stuck, r_make, kMake_ok, mkEnd_ok, r_cb, r_isi, r_bm, kBM1_ok, kBM2_ok, r_alt, kAlt_ok, kAlt_exc, kAlt_stuck,
  r_sl, kSl1_ok, kSl2_ok, kSl3_ok, r_ptN, r_ptS, optI_ok, r_nil, r_seq, kSeq_nx, kSeq_rt, kSeq_xc, kSeq_bk, kSeq_ct, r_clr, kClr_nx, kClr_rt, kClr_xc, kClr_bk, kClr_ct, clr_nil, clr_cons, r_set, kSet_ok, kSet_exc, r_expr, kExpr_ok, kExpr_exc, r_ret, kRet_ok, kRet_exc, r_retN, r_if, kSIf_t, kSIf_f, kSIf_exc, r_brk, r_cont, r_for, kFor_ok,
  kItA_ok, kIt_some, r_itL, r_itT, r_itS, r_itR1, r_itR2, r_itEn, r_asg, kAsg_ok, sTgO_some, tgM_nm, setAllM_nil, setAllM_cons, r_aug, kAug1_ok, kAug2_ok, r_fs, kFS1_ok, kFS2_ok, nxO_some, r_sl1, kSL1_ok, kSL2_ok, kSL3_ok, r_fnB, kFn_nx, kFn_rt, kFn_xc, r_lc, kLc_ok, r_yes, r_tgtp, kTg_ok, r_items, r_itemsT, kItems_ok, r_self, kSelf_ok, r_isiR, kIsi_ok, r_ty, kTy_l, r_getF, kGetF_ok, kLk_ok, lk_yes, r_setF, r_itLl, kItL_ok, r_isL, kIsL_ok, r_lApp, kApp_ok, r_getI, kGetI_ok, r_getIT, r_setI, kSetI_ok, kStO_ok, r_while, r_bm0, kBM0_ok, r_lClear, kClear_ok, r_len, kLen_ok, len_tup, r_sl4, kSl4_ok, stepQ_nx, stepQ_ct, stepQ_bk, stepQ_rt, stepQ_xc,
  Res.bind_ok, Res.bind_exc, Res.bind_stuck,
  List.map_cons, List.map_nil, List.length_cons, List.length_nil, List.replicate_succ, List.replicate_zero, List.cons_append, List.nil_append, List.append_nil, List.set_cons_succ, List.set_cons_zero, List.getElem?_cons_succ, List.getElem?_cons_zero,
  Nat.reduceAdd, Nat.reduceSub, Nat.zero_add, Nat.sub_self, Bool.not_true, Bool.not_false, eq_self_iff_true, B1.2.1, ax, is_non, isNot_non, hn, d1, d2, eq_int, add_int, hN, qk, B1.1.obj, sf, itR1_ok (show (0 : Int) ≤ (k : Int) by omega) (show (k : Int) < 2 ^ 62 by omega), tk]
        generalize hf : forGo _ _ _ _ _ _ _ = rr
        have hrr := own_fill (v := .non) (k := k) (p := p) (xs := xs) (li := li) [some (.loc r), some (.loc li), some (.int cells), some (.loc lp), some (.int w), some (.int a), some (.int n), some (.int g), some (.int s), some (.int (p : Int)), some v, some (.int (k : Int)), none, none] rfl gd hk1 hf rfl (by
          intro i S' ys hi hl hS'
          have ix : ixN ys.length ((p : Int) + (i : Int)) = some (p + i) := by
            rw [← Int.natCast_add]
            exact ixN_lt (by omega)
          simp -implicitDefEqProofs only [r_var, kVar_ok, r_c, r_op2, kOpA_ok, kOpA_exc, kOpB_ok, kOpB_exc, r_test, r_asB, r_and, r_or, r_not, kAnd_t, kAnd_f, kAnd_exc, kOr_t, kOr_f, kOr_exc, kNot_ok, kNot_exc, r_mand, r_mor, r_mnot, kMAnd_t, kMAnd_f, kMOr_t, kMOr_f, kMNot_ok, r_ife, kIfE_t, kIfE_f, kIfE_exc,
  r_anil, r_acons, kArg_ok, kArg_exc, kArgs_ok, kArgs_exc, r_tup, r_lst, r_fld, r_call, kCall_ok, kCall_exc, r_call0, noX_ok, r_meth, kM1_ok, kM1_exc, kM2_ok, kM2_stuck, kM3_ok, kM3_exc, r_meth0, kN1_ok, kN1_exc, kN2_ok, kN2_stuck, r_make, kMake_ok, mkEnd_ok, r_cb, r_isi, r_bm, kBM1_ok, kBM2_ok, r_alt, kAlt_ok, kAlt_exc, kAlt_stuck,
  r_sl, kSl1_ok, kSl2_ok, kSl3_ok, r_ptN, r_ptS, optI_ok, r_nil, r_seq, kSeq_nx, kSeq_rt, kSeq_xc, kSeq_bk, kSeq_ct, r_clr, kClr_nx, kClr_rt, kClr_xc, kClr_bk, kClr_ct, clr_nil, clr_cons, r_set, kSet_ok, kSet_exc, r_expr, kExpr_ok, kExpr_exc, r_ret, kRet_ok, kRet_exc, r_retN, r_if, kSIf_t, kSIf_f, kSIf_exc, r_brk, r_cont, r_for, kFor_ok,
  kItA_ok, kIt_some, r_itL, r_itT, r_itS, r_itR1, r_itR2, r_itEn, r_asg, kAsg_ok, sTgO_some, tgM_nm, setAllM_nil, setAllM_cons, r_aug, kAug1_ok, kAug2_ok, r_fs, kFS1_ok, kFS2_ok, nxO_some, r_sl1, kSL1_ok, kSL2_ok, kSL3_ok, r_fnB, kFn_nx, kFn_rt, kFn_xc, r_lc, kLc_ok, r_yes, r_tgtp, kTg_ok, r_items, r_itemsT, kItems_ok, r_self, kSelf_ok, r_isiR, kIsi_ok, r_ty, kTy_l, r_getF, kGetF_ok, kLk_ok, lk_yes, r_setF, r_itLl, kItL_ok, r_isL, kIsL_ok, r_lApp, kApp_ok, r_getI, kGetI_ok, r_getIT, r_setI, kSetI_ok, kStO_ok, r_while, r_bm0, kBM0_ok, r_lClear, kClear_ok, r_len, kLen_ok, len_tup, r_sl4, kSl4_ok, stepQ_nx, stepQ_ct, stepQ_bk, stepQ_rt, stepQ_xc,
  Res.bind_ok, Res.bind_exc, Res.bind_stuck,
  List.map_cons, List.map_nil, List.length_cons, List.length_nil, List.replicate_succ, List.replicate_zero, List.cons_append, List.nil_append, List.append_nil, List.set_cons_succ, List.set_cons_zero, List.getElem?_cons_succ, List.getElem?_cons_zero,
  Nat.reduceAdd, Nat.reduceSub, Nat.zero_add, Nat.sub_self, Bool.not_true, Bool.not_false, eq_self_iff_true, Int.zero_add, hS', add_int, ix])
        subst hrr
        simp -implicitDefEqProofs only [r_var, kVar_ok, r_c, r_op2, kOpA_ok, kOpA_exc, kOpB_ok, kOpB_exc, r_test, r_asB, r_and, r_or, r_not, kAnd_t, kAnd_f, kAnd_exc, kOr_t, kOr_f, kOr_exc, kNot_ok, kNot_exc, r_mand, r_mor, r_mnot, kMAnd_t, kMAnd_f, kMOr_t, kMOr_f, kMNot_ok, r_ife, kIfE_t, kIfE_f, kIfE_exc,
  r_anil, r_acons, kArg_ok, kArg_exc, kArgs_ok, kArgs_exc, r_tup, r_lst, r_fld, r_call, kCall_ok, kCall_exc, r_call0, noX_ok, r_meth, kM1_ok, kM1_exc, kM2_ok, kM2_stuck, kM3_ok, kM3_exc, r_meth0, kN1_ok, kN1_exc, kN2_ok, kN2_stuck, r_make, kMake_ok, mkEnd_ok, r_cb, r_isi, r_bm, kBM1_ok, kBM2_ok, r_alt, kAlt_ok, kAlt_exc, kAlt_stuck,
  r_sl, kSl1_ok, kSl2_ok, kSl3_ok, r_ptN, r_ptS, optI_ok, r_nil, r_seq, kSeq_nx, kSeq_rt, kSeq_xc, kSeq_bk, kSeq_ct, r_clr, kClr_nx, kClr_rt, kClr_xc, kClr_bk, kClr_ct, clr_nil, clr_cons, r_set, kSet_ok, kSet_exc, r_expr, kExpr_ok, kExpr_exc, r_ret, kRet_ok, kRet_exc, r_retN, r_if, kSIf_t, kSIf_f, kSIf_exc, r_brk, r_cont, r_for, kFor_ok,
  kItA_ok, kIt_some, r_itL, r_itT, r_itS, r_itR1, r_itR2, r_itEn, r_asg, kAsg_ok, sTgO_some, tgM_nm, setAllM_nil, setAllM_cons, r_aug, kAug1_ok, kAug2_ok, r_fs, kFS1_ok, kFS2_ok, nxO_some, r_sl1, kSL1_ok, kSL2_ok, kSL3_ok, r_fnB, kFn_nx, kFn_rt, kFn_xc, r_lc, kLc_ok, r_yes, r_tgtp, kTg_ok, r_items, r_itemsT, kItems_ok, r_self, kSelf_ok, r_isiR, kIsi_ok, r_ty, kTy_l, r_getF, kGetF_ok, kLk_ok, lk_yes, r_setF, r_itLl, kItL_ok, r_isL, kIsL_ok, r_lApp, kApp_ok, r_getI, kGetI_ok, r_getIT, r_setI, kSetI_ok, kStO_ok, r_while, r_bm0, kBM0_ok, r_lClear, kClear_ok, r_len, kLen_ok, len_tup, r_sl4, kSl4_ok, stepQ_nx, stepQ_ct, stepQ_bk, stepQ_rt, stepQ_xc,
  Res.bind_ok, Res.bind_exc, Res.bind_stuck,
  List.map_cons, List.map_nil, List.length_cons, List.length_nil, List.replicate_succ, List.replicate_zero, List.cons_append, List.nil_append, List.append_nil, List.set_cons_succ, List.set_cons_zero, List.getElem?_cons_succ, List.getElem?_cons_zero,
  Nat.reduceAdd, Nat.reduceSub, Nat.zero_add, Nat.sub_self, Bool.not_true, Bool.not_false, eq_self_iff_true]
        exact ⟨_, _, rfl, hfin _ k .non B1 okv_non (.pfx p1)⟩
      · by_cases c3 : x = .non
        · subst c3
          have d1 : decide (w < 2) = false := decide_eq_false (fun z => c1 ⟨z, rfl⟩)
          cases hb2 : decide (w = 2) with
          | true =>
            simp -implicitDefEqProofs only [r_var, kVar_ok, r_c, r_op2, kOpA_ok, kOpA_exc, kOpB_ok, kOpB_exc, r_test, r_asB, r_and, r_or, r_not, kAnd_t, kAnd_f, kAnd_exc, kOr_t, kOr_f, kOr_exc, kNot_ok, kNot_exc, r_mand, r_mor, r_mnot, kMAnd_t, kMAnd_f, kMOr_t, kMOr_f, kMNot_ok, r_ife, kIfE_t, kIfE_f, kIfE_exc,
  r_anil, r_acons, kArg_ok, kArg_exc, kArgs_ok, kArgs_exc, r_tup, r_lst, r_fld, r_call, kCall_ok, kCall_exc, r_call0, noX_ok, r_meth, kM1_ok, kM1_exc, kM2_ok, kM2_stuck, kM3_ok, kM3_exc, r_meth0, kN1_ok, kN1_exc, kN2_ok, kN2_stuck, r_make, kMake_ok, mkEnd_ok, r_cb, r_isi, r_bm, kBM1_ok, kBM2_ok, r_alt, kAlt_ok, kAlt_exc, kAlt_stuck,
  r_sl, kSl1_ok, kSl2_ok, kSl3_ok, r_ptN, r_ptS, optI_ok, r_nil, r_seq, kSeq_nx, kSeq_rt, kSeq_xc, kSeq_bk, kSeq_ct, r_clr, kClr_nx, kClr_rt, kClr_xc, kClr_bk, kClr_ct, clr_nil, clr_cons, r_set, kSet_ok, kSet_exc, r_expr, kExpr_ok, kExpr_exc, r_ret, kRet_ok, kRet_exc, r_retN, r_if, kSIf_t, kSIf_f, kSIf_exc, r_brk, r_cont, r_for, kFor_ok,
  kItA_ok, kIt_some, r_itL, r_itT, r_itS, r_itR1, r_itR2, r_itEn, r_asg, kAsg_ok, sTgO_some, tgM_nm, setAllM_nil, setAllM_cons, r_aug, kAug1_ok, kAug2_ok, r_fs, kFS1_ok, kFS2_ok, nxO_some, r_sl1, kSL1_ok, kSL2_ok, kSL3_ok, r_fnB, kFn_nx, kFn_rt, kFn_xc, r_lc, kLc_ok, r_yes, r_tgtp, kTg_ok, r_items, r_itemsT, kItems_ok, r_self, kSelf_ok, r_isiR, kIsi_ok, r_ty, kTy_l, r_getF, kGetF_ok, kLk_ok, lk_yes, r_setF, r_itLl, kItL_ok, r_isL, kIsL_ok, r_lApp, kApp_ok, r_getI, kGetI_ok, r_getIT, r_setI, kSetI_ok, kStO_ok, r_while, r_bm0, kBM0_ok, r_lClear, kClear_ok, r_len, kLen_ok, len_tup, r_sl4, kSl4_ok, stepQ_nx, stepQ_ct, stepQ_bk, stepQ_rt, stepQ_xc,
  Res.bind_ok, Res.bind_exc, Res.bind_stuck,
  List.map_cons, List.map_nil, List.length_cons, List.length_nil, List.replicate_succ, List.replicate_zero, List.cons_append, List.nil_append, List.append_nil, List.set_cons_succ, List.set_cons_zero, List.getElem?_cons_succ, List.getElem?_cons_zero,
  Nat.reduceAdd, Nat.reduceSub, Nat.zero_add, Nat.sub_self, Bool.not_true, Bool.not_false, eq_self_iff_true, B1.2.1, ax, is_non, isNot_non, isN_non, d1, hb2, eq_int]
            exact ⟨S1, xs, rfl, B1, hok, .pfx p1⟩
          | false =>
            simp -implicitDefEqProofs only [r_var, kVar_ok, r_c, r_op2, kOpA_ok, kOpA_exc, kOpB_ok, kOpB_exc, r_test, r_asB, r_and, r_or, r_not, kAnd_t, kAnd_f, kAnd_exc, kOr_t, kOr_f, kOr_exc, kNot_ok, kNot_exc, r_mand, r_mor, r_mnot, kMAnd_t, kMAnd_f, kMOr_t, kMOr_f, kMNot_ok, r_ife, kIfE_t, kIfE_f, kIfE_exc,
  r_anil, r_acons, kArg_ok, kArg_exc, kArgs_ok, kArgs_exc, r_tup, r_lst, r_fld, r_call, kCall_ok, kCall_exc, r_call0, noX_ok, r_meth, kM1_ok, kM1_exc, kM2_ok, kM2_stuck, kM3_ok, kM3_exc, r_meth0, kN1_ok, kN1_exc, kN2_ok, kN2_stuck, r_make, kMake_ok, mkEnd_ok, r_cb, r_isi, r_bm, kBM1_ok, kBM2_ok, r_alt, kAlt_ok, kAlt_exc, kAlt_stuck,
  r_sl, kSl1_ok, kSl2_ok, kSl3_ok, r_ptN, r_ptS, optI_ok, r_nil, r_seq, kSeq_nx, kSeq_rt, kSeq_xc, kSeq_bk, kSeq_ct, r_clr, kClr_nx, kClr_rt, kClr_xc, kClr_bk, kClr_ct, clr_nil, clr_cons, r_set, kSet_ok, kSet_exc, r_expr, kExpr_ok, kExpr_exc, r_ret, kRet_ok, kRet_exc, r_retN, r_if, kSIf_t, kSIf_f, kSIf_exc, r_brk, r_cont, r_for, kFor_ok,
  kItA_ok, kIt_some, r_itL, r_itT, r_itS, r_itR1, r_itR2, r_itEn, r_asg, kAsg_ok, sTgO_some, tgM_nm, setAllM_nil, setAllM_cons, r_aug, kAug1_ok, kAug2_ok, r_fs, kFS1_ok, kFS2_ok, nxO_some, r_sl1, kSL1_ok, kSL2_ok, kSL3_ok, r_fnB, kFn_nx, kFn_rt, kFn_xc, r_lc, kLc_ok, r_yes, r_tgtp, kTg_ok, r_items, r_itemsT, kItems_ok, r_self, kSelf_ok, r_isiR, kIsi_ok, r_ty, kTy_l, r_getF, kGetF_ok, kLk_ok, lk_yes, r_setF, r_itLl, kItL_ok, r_isL, kIsL_ok, r_lApp, kApp_ok, r_getI, kGetI_ok, r_getIT, r_setI, kSetI_ok, kStO_ok, r_while, r_bm0, kBM0_ok, r_lClear, kClear_ok, r_len, kLen_ok, len_tup, r_sl4, kSl4_ok, stepQ_nx, stepQ_ct, stepQ_bk, stepQ_rt, stepQ_xc,
  Res.bind_ok, Res.bind_exc, Res.bind_stuck,
  List.map_cons, List.map_nil, List.length_cons, List.length_nil, List.replicate_succ, List.replicate_zero, List.cons_append, List.nil_append, List.append_nil, List.set_cons_succ, List.set_cons_zero, List.getElem?_cons_succ, List.getElem?_cons_zero,
  Nat.reduceAdd, Nat.reduceSub, Nat.zero_add, Nat.sub_self, Bool.not_true, Bool.not_false, eq_self_iff_true, B1.2.1, ax, is_non, isNot_non, isN_non, d1, hb2, eq_int]
            exact ⟨S1, xs, rfl, B1, hok, .pfx p1⟩
        · have hn : x.isN = false := by
            cases h : x.isN with
            | false => rfl
            | true => exact absurd (isN_iff.mp h) c3
          have d2 : decide (w = 2) = false := decide_eq_false (fun z => c2 ⟨z, c3⟩)
          have ws := write_spec B1.1 (x := v) hpl
          have gd : (S1.set l (.lst false (xs.set p v)))[li]? = some (.lst false xs) := set_get_ne B1.2.1 B1.2.2.1.symm
          have e : xs.set p v = fillL xs p (reps v 1) := rfl
          rw [e] at ws gd
          cases hb2 : decide (w < 2) with
          | true =>
            simp -implicitDefEqProofs only [r_var, kVar_ok, r_c, r_op2, kOpA_ok, kOpA_exc, kOpB_ok, kOpB_exc, r_test, r_asB, r_and, r_or, r_not, kAnd_t, kAnd_f, kAnd_exc, kOr_t, kOr_f, kOr_exc, kNot_ok, kNot_exc, r_mand, r_mor, r_mnot, kMAnd_t, kMAnd_f, kMOr_t, kMOr_f, kMNot_ok, r_ife, kIfE_t, kIfE_f, kIfE_exc,
  r_anil, r_acons, kArg_ok, kArg_exc, kArgs_ok, kArgs_exc, r_tup, r_lst, r_fld, r_call, kCall_ok, kCall_exc, r_call0, noX_ok, r_meth, kM1_ok, kM1_exc, kM2_ok, kM2_stuck, kM3_ok, kM3_exc, r_meth0, kN1_ok, kN1_exc, kN2_ok, kN2_stuck, r_make, kMake_ok, mkEnd_ok, r_cb, r_isi, r_bm, kBM1_ok, kBM2_ok, r_alt, kAlt_ok, kAlt_exc, kAlt_stuck,
  r_sl, kSl1_ok, kSl2_ok, kSl3_ok, r_ptN, r_ptS, optI_ok, r_nil, r_seq, kSeq_nx, kSeq_rt, kSeq_xc, kSeq_bk, kSeq_ct, r_clr, kClr_nx, kClr_rt, kClr_xc, kClr_bk, kClr_ct, clr_nil, clr_cons, r_set, kSet_ok, kSet_exc, r_expr, kExpr_ok, kExpr_exc, r_ret, kRet_ok, kRet_exc, r_retN, r_if, kSIf_t, kSIf_f, kSIf_exc, r_brk, r_cont, r_for, kFor_ok,
  kItA_ok, kIt_some, r_itL, r_itT, r_itS, r_itR1, r_itR2, r_itEn, r_asg, kAsg_ok, sTgO_some, tgM_nm, setAllM_nil, setAllM_cons, r_aug, kAug1_ok, kAug2_ok, r_fs, kFS1_ok, kFS2_ok, nxO_some, r_sl1, kSL1_ok, kSL2_ok, kSL3_ok, r_fnB, kFn_nx, kFn_rt, kFn_xc, r_lc, kLc_ok, r_yes, r_tgtp, kTg_ok, r_items, r_itemsT, kItems_ok, r_self, kSelf_ok, r_isiR, kIsi_ok, r_ty, kTy_l, r_getF, kGetF_ok, kLk_ok, lk_yes, r_setF, r_itLl, kItL_ok, r_isL, kIsL_ok, r_lApp, kApp_ok, r_getI, kGetI_ok, r_getIT, r_setI, kSetI_ok, kStO_ok, r_while, r_bm0, kBM0_ok, r_lClear, kClear_ok, r_len, kLen_ok, len_tup, r_sl4, kSl4_ok, stepQ_nx, stepQ_ct, stepQ_bk, stepQ_rt, stepQ_xc,
  Res.bind_ok, Res.bind_exc, Res.bind_stuck,
  List.map_cons, List.map_nil, List.length_cons, List.length_nil, List.replicate_succ, List.replicate_zero, List.cons_append, List.nil_append, List.append_nil, List.set_cons_succ, List.set_cons_zero, List.getElem?_cons_succ, List.getElem?_cons_zero,
  Nat.reduceAdd, Nat.reduceSub, Nat.zero_add, Nat.sub_self, Bool.not_true, Bool.not_false, eq_self_iff_true, B1.2.1, ax, is_non, isNot_non, hn, hb2, d2, eq_int, B1.1.obj, ws, gd, ixN_lt hpl, e]
            exact ⟨_, _, rfl, hfin _ 1 v B1 hvo (.pfx p1)⟩
          | false =>
            simp -implicitDefEqProofs only [r_var, kVar_ok, r_c, r_op2, kOpA_ok, kOpA_exc, kOpB_ok, kOpB_exc, r_test, r_asB, r_and, r_or, r_not, kAnd_t, kAnd_f, kAnd_exc, kOr_t, kOr_f, kOr_exc, kNot_ok, kNot_exc, r_mand, r_mor, r_mnot, kMAnd_t, kMAnd_f, kMOr_t, kMOr_f, kMNot_ok, r_ife, kIfE_t, kIfE_f, kIfE_exc,
  r_anil, r_acons, kArg_ok, kArg_exc, kArgs_ok, kArgs_exc, r_tup, r_lst, r_fld, r_call, kCall_ok, kCall_exc, r_call0, noX_ok, r_meth, kM1_ok, kM1_exc, kM2_ok, kM2_stuck, kM3_ok, kM3_exc, r_meth0, kN1_ok, kN1_exc, kN2_ok, kN2_stuck, r_make, kMake_ok, mkEnd_ok, r_cb, r_isi, r_bm, kBM1_ok, kBM2_ok, r_alt, kAlt_ok, kAlt_exc, kAlt_stuck,
  r_sl, kSl1_ok, kSl2_ok, kSl3_ok, r_ptN, r_ptS, optI_ok, r_nil, r_seq, kSeq_nx, kSeq_rt, kSeq_xc, kSeq_bk, kSeq_ct, r_clr, kClr_nx, kClr_rt, kClr_xc, kClr_bk, kClr_ct, clr_nil, clr_cons, r_set, kSet_ok, kSet_exc, r_expr, kExpr_ok, kExpr_exc, r_ret, kRet_ok, kRet_exc, r_retN, r_if, kSIf_t, kSIf_f, kSIf_exc, r_brk, r_cont, r_for, kFor_ok,
  kItA_ok, kIt_some, r_itL, r_itT, r_itS, r_itR1, r_itR2, r_itEn, r_asg, kAsg_ok, sTgO_some, tgM_nm, setAllM_nil, setAllM_cons, r_aug, kAug1_ok, kAug2_ok, r_fs, kFS1_ok, kFS2_ok, nxO_some, r_sl1, kSL1_ok, kSL2_ok, kSL3_ok, r_fnB, kFn_nx, kFn_rt, kFn_xc, r_lc, kLc_ok, r_yes, r_tgtp, kTg_ok, r_items, r_itemsT, kItems_ok, r_self, kSelf_ok, r_isiR, kIsi_ok, r_ty, kTy_l, r_getF, kGetF_ok, kLk_ok, lk_yes, r_setF, r_itLl, kItL_ok, r_isL, kIsL_ok, r_lApp, kApp_ok, r_getI, kGetI_ok, r_getIT, r_setI, kSetI_ok, kStO_ok, r_while, r_bm0, kBM0_ok, r_lClear, kClear_ok, r_len, kLen_ok, len_tup, r_sl4, kSl4_ok, stepQ_nx, stepQ_ct, stepQ_bk, stepQ_rt, stepQ_xc,
  Res.bind_ok, Res.bind_exc, Res.bind_stuck,
  List.map_cons, List.map_nil, List.length_cons, List.length_nil, List.replicate_succ, List.replicate_zero, List.cons_append, List.nil_append, List.append_nil, List.set_cons_succ, List.set_cons_zero, List.getElem?_cons_succ, List.getElem?_cons_zero,
  Nat.reduceAdd, Nat.reduceSub, Nat.zero_add, Nat.sub_self, Bool.not_true, Bool.not_false, eq_self_iff_true, B1.2.1, ax, is_non, isNot_non, hn, hb2, d2, eq_int, B1.1.obj, ws, gd, ixN_lt hpl, e]
            exact ⟨_, _, rfl, hfin _ 1 v B1 hvo (.pfx p1)⟩
  obtain ⟨S2, ys, rfl, B2, hok2, F2⟩ := hres
  obtain ⟨y, hy⟩ : ∃ y, ys[p]? = some y := ⟨_, List.getElem?_eq_getElem (by rw [B2.1.len, ← B.1.len]; exact hpl)⟩
  have hyo : okv y := hok2 y (List.mem_of_getElem? hy)
  simp -implicitDefEqProofs only [r_var, kVar_ok, r_c, r_op2, kOpA_ok, kOpA_exc, kOpB_ok, kOpB_exc, r_test, r_asB, r_and, r_or, r_not, kAnd_t, kAnd_f, kAnd_exc, kOr_t, kOr_f, kOr_exc, kNot_ok, kNot_exc, r_mand, r_mor, r_mnot, kMAnd_t, kMAnd_f, kMOr_t, kMOr_f, kMNot_ok, r_ife, kIfE_t, kIfE_f, kIfE_exc,
  r_anil, r_acons, kArg_ok, kArg_exc, kArgs_ok, kArgs_exc, r_tup, r_lst, r_fld, r_call, kCall_ok, kCall_exc, r_call0, noX_ok, r_meth, kM1_ok, kM1_exc, kM2_ok, kM2_stuck, kM3_ok, kM3_exc, r_meth0, kN1_ok, kN1_exc, kN2_ok, kN2_stuck, r_make, kMake_ok, mkEnd_ok, r_cb, r_isi, r_bm, kBM1_ok, kBM2_ok, r_alt, kAlt_ok, kAlt_exc, kAlt_stuck,
  r_sl, kSl1_ok, kSl2_ok, kSl3_ok, r_ptN, r_ptS, optI_ok, r_nil, r_seq, kSeq_nx, kSeq_rt, kSeq_xc, kSeq_bk, kSeq_ct, r_clr, kClr_nx, kClr_rt, kClr_xc, kClr_bk, kClr_ct, clr_nil, clr_cons, r_set, kSet_ok, kSet_exc, r_expr, kExpr_ok, kExpr_exc, r_ret, kRet_ok, kRet_exc, r_retN, r_if, kSIf_t, kSIf_f, kSIf_exc, r_brk, r_cont, r_for, kFor_ok,
  kItA_ok, kIt_some, r_itL, r_itT, r_itS, r_itR1, r_itR2, r_itEn, r_asg, kAsg_ok, sTgO_some, tgM_nm, setAllM_nil, setAllM_cons, r_aug, kAug1_ok, kAug2_ok, r_fs, kFS1_ok, kFS2_ok, nxO_some, r_sl1, kSL1_ok, kSL2_ok, kSL3_ok, r_fnB, kFn_nx, kFn_rt, kFn_xc, r_lc, kLc_ok, r_yes, r_tgtp, kTg_ok, r_items, r_itemsT, kItems_ok, r_self, kSelf_ok, r_isiR, kIsi_ok, r_ty, kTy_l, r_getF, kGetF_ok, kLk_ok, lk_yes, r_setF, r_itLl, kItL_ok, r_isL, kIsL_ok, r_lApp, kApp_ok, r_getI, kGetI_ok, r_getIT, r_setI, kSetI_ok, kStO_ok, r_while, r_bm0, kBM0_ok, r_lClear, kClear_ok, r_len, kLen_ok, len_tup, r_sl4, kSl4_ok, stepQ_nx, stepQ_ct, stepQ_bk, stepQ_rt, stepQ_xc,
  Res.bind_ok, Res.bind_exc, Res.bind_stuck,
  List.map_cons, List.map_nil, List.length_cons, List.length_nil, List.replicate_succ, List.replicate_zero, List.cons_append, List.nil_append, List.append_nil, List.set_cons_succ, List.set_cons_zero, List.getElem?_cons_succ, List.getElem?_cons_zero,
  Nat.reduceAdd, Nat.reduceSub, Nat.zero_add, Nat.sub_self, Bool.not_true, Bool.not_false, eq_self_iff_true, B2.1.obj, read_spec B2.1 hy, B2.2.1, atI_nat hy, eq_okv hyo]
  exact ⟨S2, ys, rfl, B2, hok2, F2⟩
theorem BothAt.fr {S S' : Sto} {r l li many cells : Nat} {xs : List D} {W : List Nat} (B : BothAt S r l li many cells xs) (f : Fr W S S') (h1 : r ∉ W) (h2 : l ∉ W) (h3 : li ∉ W) : BothAt S' r l li many cells xs :=
  ⟨⟨f.2 _ _ h1 B.1.obj, f.2 _ _ h2 B.1.ins, B.1.len, B.1.sm, B.1.sc⟩, f.2 _ _ h3 B.2.1, B.2.2.1, B.2.2.2⟩
/-- what stands at the law's level -/
structure Lvl (S : Sto) (c1 c2 m1 m2 : Nat) (zs : List Int) (xs ys : List D) : Prop where
  b1 : BothAt S 3 5 11 m1 c1 xs
  b2 : BothAt S 6 8 13 m2 c2 ys
  g1 : S[1]? = some (.lst false [.int (c1 : Int), .int (c2 : Int)])
  g9 : S[9]? = some (.lst false [.loc 3, .loc 6])
  g14 : S[14]? = some (.lst false [.loc 11, .loc 13])
  g15 : S[15]? = some (.lst false (zs.map .int))
  o1 : okvs xs
  o2 : okvs ys
theorem law_true : ∀ ns : List Int, ns.length ≤ 63 → (∀ z ∈ ns, Builtin.Int.intBits z ≤ 1048576) → ∃ S', f_law [.loc 0] (scriptS ns) = .ok (.bl true) S' := by
  intro ns hlen hb
  obtain ⟨E40, hE⟩ : ∃ B : Int, B = 10 ^ (40 : Int).toNat := ⟨_, rfl⟩
  have hpw := fun S => pow_int (S := S) (i := 10) (j := 40) (by decide)
  rw [← hE] at hpw
  have E0 : 0 < E40 := by rw [hE]; decide
  have E1 : E40.natAbs < 2 ^ 1000 := by rw [hE]; decide +kernel
  clear hE
  obtain ⟨S0, hS0⟩ : ∃ S0, S0 = scriptS ns := ⟨_, rfl⟩
  have g00 : S0[0]? = some (.lst true (ns.map .int)) := by rw [hS0]; rfl
  have len0 : S0.length = 1 := by rw [hS0]; rfl
  rw [← hS0]
  clear hS0
  have q0 := cell_at_spec g00 0 0 rfl
  obtain ⟨f, hf⟩ : ∃ f, f = ns.getD 0 0 := ⟨_, rfl⟩
  rw [← hf] at q0
  clear hf
  obtain ⟨c1, hc1, c1a⟩ : ∃ m : Nat, 1 + f / 2 % 16 = (m : Int) ∧ 1 ≤ m ∧ m ≤ 16 := ⟨(1 + f / 2 % 16).toNat, by omega, by omega⟩
  obtain ⟨c2, hc2, c2a⟩ : ∃ m : Nat, 1 + f / 32 % 16 = (m : Int) ∧ 1 ≤ m ∧ m ≤ 16 := ⟨(1 + f / 32 % 16).toNat, by omega, by omega⟩
  obtain ⟨m1, hm1, m1a⟩ : ∃ m : Nat, 1 + f / 512 % 5 = (m : Int) ∧ 1 ≤ m ∧ m ≤ 5 := ⟨(1 + f / 512 % 5).toNat, by omega, by omega⟩
  obtain ⟨m2, hm2, m2a⟩ : ∃ m : Nat, 1 + f / 2560 % 5 = (m : Int) ∧ 1 ≤ m ∧ m ≤ 5 := ⟨(1 + f / 2560 % 5).toNat, by omega, by omega⟩
  have n1a : m1 * c1 ≤ 80 := Nat.mul_le_mul m1a.2 c1a.2
  have n2a : m2 * c2 ≤ 80 := Nat.mul_le_mul m2a.2 c2a.2
  have n1p : 0 < m1 * c1 := Nat.mul_pos (by omega) (by omega)
  have n2p : 0 < m2 * c2 := Nat.mul_pos (by omega) (by omega)
  obtain ⟨n1, hn1⟩ : ∃ n, n = m1 * c1 := ⟨_, rfl⟩
  obtain ⟨n2, hn2⟩ : ∃ n, n = m2 * c2 := ⟨_, rfl⟩
  have mm1 := fun S => mul_nat (a := m1) (b := c1) (by omega) (by omega) S
  have mm2 := fun S => mul_nat (a := m2) (b := c2) (by omega) (by omega) S
  rw [← hn1] at mm1
  rw [← hn2] at mm2
  obtain ⟨S1a, hS1a⟩ : ∃ S, S = S0 ++ [O.lst false [.int (c1 : Int), .int (c2 : Int)]] := ⟨_, rfl⟩
  have l1a : S1a.length = 2 := by rw [hS1a, List.length_append, len0]; rfl
  obtain ⟨S1, hS1⟩ : ∃ S, S = S1a ++ [O.lst false [.int (m1 : Int), .int (m2 : Int)]] := ⟨_, rfl⟩
  have l1 : S1.length = 3 := by rw [hS1, List.length_append, l1a]; rfl
  have p1a : S1a <+: S1 := ⟨_, hS1.symm⟩
  have e1 : S1[1]? = some (.lst false [.int (c1 : Int), .int (c2 : Int)]) := pfx_get p1a (by
    have := at_z (S := S0) (T := [O.lst false [.int (c1 : Int), .int (c2 : Int)]])
    rw [len0, ← hS1a] at this
    exact this)
  have e2 : S1[2]? = some (.lst false [.int (m1 : Int), .int (m2 : Int)]) := by
    have := at_z (S := S1a) (T := [O.lst false [.int (m1 : Int), .int (m2 : Int)]])
    rw [l1a, ← hS1] at this
    exact this
  obtain ⟨S2, q2, p2, l2, R2⟩ := rooms_make_spec (S := S1) (many := m1) (cells := c1) (by omega) (by omega) (by omega)
  rw [l1] at q2 l2 R2
  obtain ⟨S3, q3, p3, l3, R3⟩ := rooms_make_spec (S := S2) (many := m2) (cells := c2) (by omega) (by omega) (by omega)
  rw [l2] at q3 l3 R3
  rw [← hn1] at R2
  rw [← hn2] at R3
  obtain ⟨S4, hS4⟩ : ∃ S, S = S3 ++ [O.lst false [.loc 3, .loc 6]] := ⟨_, rfl⟩
  obtain ⟨S5, hS5⟩ : ∃ S, S = S4 ++ [O.lst false [.non]] := ⟨_, rfl⟩
  obtain ⟨S6, hS6⟩ : ∃ S, S = S5 ++ [O.lst false (List.replicate n1 .non)] := ⟨_, rfl⟩
  obtain ⟨S7, hS7⟩ : ∃ S, S = S6 ++ [O.lst false [.non]] := ⟨_, rfl⟩
  obtain ⟨S8, hS8⟩ : ∃ S, S = S7 ++ [O.lst false (List.replicate n2 .non)] := ⟨_, rfl⟩
  obtain ⟨S9, hS9⟩ : ∃ S, S = S8 ++ [O.lst false [.loc 11, .loc 13]] := ⟨_, rfl⟩
  have hcut : cutD (ns.map .int) (some 1) (some 41) = ((ns.drop 1).take 40).map .int := by
    rw [show (1 : Int) = ((1 : Nat) : Int) from rfl, show (41 : Int) = ((41 : Nat) : Int) from rfl, cut_both, List.map_take, List.map_drop]
  obtain ⟨zs, hzs⟩ : ∃ zs, zs = (ns.drop 1).take 40 := ⟨_, rfl⟩
  rw [← hzs] at hcut
  have hz : ∀ z ∈ zs, z.natAbs < 2 ^ 1048576 := by
    intro z hz
    rw [hzs] at hz
    exact bits_lt (hb z (List.mem_of_mem_drop (List.mem_of_mem_take hz)))
  clear hzs
  obtain ⟨SA, hSA⟩ : ∃ S, S = S9 ++ [O.lst false (zs.map .int)] := ⟨_, rfl⟩
  have l4 : S4.length = 10 := by rw [hS4, List.length_append, l3]; rfl
  have l5 : S5.length = 11 := by rw [hS5, List.length_append, l4]; rfl
  have l6 : S6.length = 12 := by rw [hS6, List.length_append, l5]; rfl
  have l7 : S7.length = 13 := by rw [hS7, List.length_append, l6]; rfl
  have l8 : S8.length = 14 := by rw [hS8, List.length_append, l7]; rfl
  have l9 : S9.length = 15 := by rw [hS9, List.length_append, l8]; rfl
  have last : ∀ (S T : Sto) (o : O) (n : Nat), T = S ++ [o] → S.length = n → T[n]? = some o := by
    rintro S T o n rfl rfl
    exact get_last _ _
  have e9 := last _ _ _ _ hS4 l3
  have e10 := last _ _ _ _ hS5 l4
  have e11 := last _ _ _ _ hS6 l5
  have e12 := last _ _ _ _ hS7 l6
  have e13 := last _ _ _ _ hS8 l7
  have e14 := last _ _ _ _ hS9 l8
  have e15 := last _ _ _ _ hSA l9
  have p9 : S9 <+: SA := ⟨_, hSA.symm⟩
  have p8 : S8 <+: S9 := ⟨_, hS9.symm⟩
  have p7 : S7 <+: S8 := ⟨_, hS8.symm⟩
  have p6 : S6 <+: S7 := ⟨_, hS7.symm⟩
  have p5 : S5 <+: S6 := ⟨_, hS6.symm⟩
  have p4 : S4 <+: S5 := ⟨_, hS5.symm⟩
  have p3' : S3 <+: S4 := ⟨_, hS4.symm⟩
  have p8A := p8.trans p9
  have p6A := p6.trans (p7.trans p8A)
  have p4A := p4.trans (p5.trans p6A)
  have p3A := p3'.trans p4A
  have p2A := p3.trans p3A
  have p1A := p2.trans p2A
  have rep1 : mulD (.loc 10) (.int (n1 : Int)) S5 = .ok (.loc 11) S6 := by
    rw [r_rep, e10, kRep_nat (by omega), hS6, l5]
  have rep2 : mulD (.loc 12) (.int (n2 : Int)) S7 = .ok (.loc 13) S8 := by
    rw [r_rep, e12, kRep_nat (by omega), hS8, l7]
  have lvl : Lvl SA c1 c2 m1 m2 zs (List.replicate n1 .non) (List.replicate n2 .non) :=
    ⟨⟨R2.pre p2A, pfx_get p6A e11, by omega, by omega⟩, ⟨R3.pre p3A, pfx_get p8A e13, by omega, by omega⟩, pfx_get p1A e1, pfx_get p4A e9, pfx_get p9 e14, e15, reps_okvs (v := .non) (n := n1) okv_non, reps_okvs (v := .non) (n := n2) okv_non⟩
  have x0 : ∀ (a b : D) S, kLk (atI [a, b] 0) S = .ok a S := fun _ _ _ => rfl
  have x1 : ∀ (a b : D) S, kLk (atI [a, b] 1) S = .ok b S := fun _ _ _ => rfl
  have fd := fun (j : Int) S (h : 0 < j) (h2 : j.natAbs.log2 < 9000) => fdiv_int (S := S) (i := f) (j := j) h h2
  have fd2 := fun S => fd 2 S (by decide) (by decide)
  have fd32 := fun S => fd 32 S (by decide) (by decide)
  have fd512 := fun S => fd 512 S (by decide) (by decide)
  have fd2560 := fun S => fd 2560 S (by decide) (by decide)
  have md16 := fun i S => mod_int (S := S) (i := i) (j := 16) (by decide)
  have md5 := fun i S => mod_int (S := S) (i := i) (j := 5) (by decide)
  have g0_9 : S9[0]? = some (.lst true (ns.map .int)) := pfx_get ((((p1a.trans p2).trans p3).trans p3').trans (p4.trans (p5.trans (p6.trans (p7.trans p8))))) (pfx_get ⟨_, hS1a.symm⟩ g00)
  have e1_2 := pfx_get p2 e1
  have e2_2 := pfx_get p2 e2
  have e1_5 := pfx_get ((p2.trans p3).trans (p3'.trans p4)) e1
  have e2_5 := pfx_get ((p2.trans p3).trans (p3'.trans p4)) e2
  have e1_7 := pfx_get (p5.trans p6) e1_5
  have e2_7 := pfx_get (p5.trans p6) e2_5
  unfold f_law b_law
  simp -implicitDefEqProofs only [r_var, kVar_ok, r_c, r_op2, kOpA_ok, kOpA_exc, kOpB_ok, kOpB_exc, r_test, r_asB, r_and, r_or, r_not, kAnd_t, kAnd_f, kAnd_exc, kOr_t, kOr_f, kOr_exc, kNot_ok, kNot_exc, r_mand, r_mor, r_mnot, kMAnd_t, kMAnd_f, kMOr_t, kMOr_f, kMNot_ok, r_ife, kIfE_t, kIfE_f, kIfE_exc,
  r_anil, r_acons, kArg_ok, kArg_exc, kArgs_ok, kArgs_exc, r_tup, r_lst, r_fld, r_call, kCall_ok, kCall_exc, r_call0, noX_ok, r_meth, kM1_ok, kM1_exc, kM2_ok, kM2_stuck, kM3_ok, kM3_exc, r_meth0, kN1_ok, kN1_exc, kN2_ok, kN2_stuck, r_make, kMake_ok, mkEnd_ok, r_cb, r_isi, r_bm, kBM1_ok, kBM2_ok, r_alt, kAlt_ok, kAlt_exc, kAlt_stuck,
  r_sl, kSl1_ok, kSl2_ok, kSl3_ok, r_ptN, r_ptS, optI_ok, r_nil, r_seq, kSeq_nx, kSeq_rt, kSeq_xc, kSeq_bk, kSeq_ct, r_clr, kClr_nx, kClr_rt, kClr_xc, kClr_bk, kClr_ct, clr_nil, clr_cons, r_set, kSet_ok, kSet_exc, r_expr, kExpr_ok, kExpr_exc, r_ret, kRet_ok, kRet_exc, r_retN, r_if, kSIf_t, kSIf_f, kSIf_exc, r_brk, r_cont, r_for, kFor_ok,
  kItA_ok, kIt_some, r_itL, r_itT, r_itS, r_itR1, r_itR2, r_itEn, r_asg, kAsg_ok, sTgO_some, tgM_nm, setAllM_nil, setAllM_cons, r_aug, kAug1_ok, kAug2_ok, r_fs, kFS1_ok, kFS2_ok, nxO_some, r_sl1, kSL1_ok, kSL2_ok, kSL3_ok, r_fnB, kFn_nx, kFn_rt, kFn_xc, r_lc, kLc_ok, r_yes, r_tgtp, kTg_ok, r_items, r_itemsT, kItems_ok, r_self, kSelf_ok, r_isiR, kIsi_ok, r_ty, kTy_l, r_getF, kGetF_ok, kLk_ok, lk_yes, r_setF, r_itLl, kItL_ok, r_isL, kIsL_ok, r_lApp, kApp_ok, r_getI, kGetI_ok, r_getIT, r_setI, kSetI_ok, kStO_ok, r_while, r_bm0, kBM0_ok, r_lClear, kClear_ok, r_len, kLen_ok, len_tup, r_sl4, kSl4_ok, stepQ_nx, stepQ_ct, stepQ_bk, stepQ_rt, stepQ_xc,
  Res.bind_ok, Res.bind_exc, Res.bind_stuck,
  List.map_cons, List.map_nil, List.length_cons, List.length_nil, List.replicate_succ, List.replicate_zero, List.cons_append, List.nil_append, List.append_nil, List.set_cons_succ, List.set_cons_zero, List.getElem?_cons_succ, List.getElem?_cons_zero,
  Nat.reduceAdd, Nat.reduceSub, Nat.zero_add, Nat.sub_self, Bool.not_true, Bool.not_false, eq_self_iff_true, q0, fd2, fd32, fd512, fd2560, md16, md5, add_int, hc1, hc2, hm1, hm2, lstD_ok, Nat.reduceLeDiff, len0, ← hS1a, l1a, ← hS1, l1, e1, e2, x0, x1, q2, l2, e1_2, e2_2, q3, l3, ← hS4, l4, ← hS5, e1_5, e2_5, mm1, mm2, rep1, l5, l6, ← hS7, e1_7, e2_7, rep2, l7, l8, ← hS9, g0_9, hcut, l9, ← hSA, e15]
  clear hS1a hS1 hS4 hS5 hS6 hS7 hS8 hS9 hSA
  generalize hf : forGo _ _ _ _ _ _ _ = res
  obtain ⟨par, hpar⟩ : ∃ b, b = decide (f % 2 = 0) := ⟨_, rfl⟩
  have hres : ∃ S xs ys, Lvl S c1 c2 m1 m2 zs xs ys ∧ res = .nx [some (.loc 0), some (.int f), some (.loc 1), some (.loc 2), some (.loc 9), some (.loc 14), none, none, none, none] S := by
    refine forL hf (zs.map .int) (fun i ρ S => ∃ xs ys, Lvl S c1 c2 m1 m2 zs xs ys ∧ ρ = [some (.loc 0), some (.int f), some (.loc 1), some (.loc 2), some (.loc 9), some (.loc 14), none, none, none, none])
      (fun res => ∃ S xs ys, Lvl S c1 c2 m1 m2 zs xs ys ∧ res = .nx [some (.loc 0), some (.int f), some (.loc 1), some (.loc 2), some (.loc 9), some (.loc 14), none, none, none, none] S) (by omega) ⟨_, _, lvl, rfl⟩ ?_ ?_ ?_
    · rintro i ρ S ⟨xs, ys, V, rfl⟩
      exact ⟨_, V.g15⟩
    · rintro i x ρ S e ⟨xs, ys, V, rfl⟩
      rw [List.getElem?_map] at e
      obtain ⟨c, es, rfl⟩ := Option.map_eq_some_iff.mp e
      refine ⟨_, rfl, ?_⟩
      have hl : (S ++ [O.lst false [.int 2, .int 4, .int 80, .int 9, .int E40, .int 2]])[S.length]? = some (.lst false ([2, 4, 80, 9, E40, 2].map D.int)) := get_last _ _
      have hsz : ∀ s ∈ ([2, 4, 80, 9, E40, 2] : List Int), 0 < s ∧ s.natAbs < 2 ^ 1000 := by
        intro s hs
        simp only [List.mem_cons, List.not_mem_nil, or_false] at hs
        rcases hs with rfl | rfl | rfl | rfl | rfl | rfl <;> first | exact ⟨E0, E1⟩ | decide +kernel
      have hd := law_drawn_spec hl hsz (by simp) (hz c (List.mem_of_getElem? es)) par
      obtain ⟨d, hd'⟩ : ∃ d, d = drawNum c par := ⟨_, rfl⟩
      rw [← hd'] at hd
      have d0 : 0 ≤ d := by rw [hd']; exact drawNum_nn c par
      clear hd'
      simp only [digits] at hd
      obtain ⟨k, hk⟩ : ∃ x : Int, x = d % 2 := ⟨_, rfl⟩
      obtain ⟨w, hw⟩ : ∃ x : Int, x = d / 2 % 4 := ⟨_, rfl⟩
      obtain ⟨a, ha⟩ : ∃ x : Int, x = d / 2 / 4 % 80 := ⟨_, rfl⟩
      obtain ⟨n, hn⟩ : ∃ x : Int, x = d / 2 / 4 / 80 % 9 := ⟨_, rfl⟩
      obtain ⟨g, hg⟩ : ∃ x : Int, x = d / 2 / 4 / 80 / 9 % E40 := ⟨_, rfl⟩
      obtain ⟨s, hs⟩ : ∃ x : Int, x = d / 2 / 4 / 80 / 9 / E40 % 2 := ⟨_, rfl⟩
      rw [← hk, ← hw, ← ha, ← hn, ← hg, ← hs] at hd
      have k01 : k = 0 ∨ k = 1 := by omega
      have n09 : 0 ≤ n ∧ n < 9 := by omega
      have s01 : s = 0 ∨ s = 1 := by omega
      clear hk hw ha hn hg hs
      have LL : (S ++ [O.lst false [D.int 2, .int 4, .int 80, .int 9, .int E40, .int 2]]).length = S.length + 1 := by simp
      rw [LL, List.append_assoc] at hd
      obtain ⟨T, hT⟩ : ∃ T, T = S ++ ([O.lst false [D.int 2, .int 4, .int 80, .int 9, .int E40, .int 2]] ++ [O.lst false (List.map D.int [k, w, a, n, g, s])]) := ⟨_, rfl⟩
      rw [← hT] at hd
      have pT : S <+: T := ⟨_, hT.symm⟩
      have gT : T[S.length + 1]? = some (.lst false [.int k, .int w, .int a, .int n, .int g, .int s]) := by rw [hT, at_k]; rfl
      clear hT LL hl
      have cu : cutD [D.int k, .int w, .int a, .int n, .int g, .int s] (some 1) none = [.int w, .int a, .int n, .int g, .int s] := rfl
      obtain ⟨U, hU⟩ : ∃ U, U = T ++ [O.lst false [D.int w, .int a, .int n, .int g, .int s]] := ⟨_, rfl⟩
      have pU : S <+: U := by rw [hU]; exact pfx_app pT
      have gU : U[T.length]? = some (.lst false [.int w, .int a, .int n, .int g, .int s]) := by rw [hU, at_z]; rfl
      have md2 := fun S => mod_int (S := S) (i := f) (j := 2) (by decide)
      have x0' : ∀ S, kLk (atI [D.int k, .int w, .int a, .int n, .int g, .int s] 0) S = .ok (.int k) S := fun _ => rfl
      rcases k01 with rfl | rfl
      · obtain ⟨S', ys', q, B', o', F'⟩ := done_spec (w := w) (a := a) (n := n) (g := g) (s := s) (V.b1.pre pU) V.o1 (by omega) (by rw [V.b1.1.len]; omega) (by rw [V.b1.1.len]; omega) gU n09 s01
        simp -implicitDefEqProofs only [r_var, kVar_ok, r_c, r_op2, kOpA_ok, kOpA_exc, kOpB_ok, kOpB_exc, r_test, r_asB, r_and, r_or, r_not, kAnd_t, kAnd_f, kAnd_exc, kOr_t, kOr_f, kOr_exc, kNot_ok, kNot_exc, r_mand, r_mor, r_mnot, kMAnd_t, kMAnd_f, kMOr_t, kMOr_f, kMNot_ok, r_ife, kIfE_t, kIfE_f, kIfE_exc,
  r_anil, r_acons, kArg_ok, kArg_exc, kArgs_ok, kArgs_exc, r_tup, r_lst, r_fld, r_call, kCall_ok, kCall_exc, r_call0, noX_ok, r_meth, kM1_ok, kM1_exc, kM2_ok, kM2_stuck, kM3_ok, kM3_exc, r_meth0, kN1_ok, kN1_exc, kN2_ok, kN2_stuck, r_make, kMake_ok, mkEnd_ok, r_cb, r_isi, r_bm, kBM1_ok, kBM2_ok, r_alt, kAlt_ok, kAlt_exc, kAlt_stuck,
  r_sl, kSl1_ok, kSl2_ok, kSl3_ok, r_ptN, r_ptS, optI_ok, r_nil, r_seq, kSeq_nx, kSeq_rt, kSeq_xc, kSeq_bk, kSeq_ct, r_clr, kClr_nx, kClr_rt, kClr_xc, kClr_bk, kClr_ct, clr_nil, clr_cons, r_set, kSet_ok, kSet_exc, r_expr, kExpr_ok, kExpr_exc, r_ret, kRet_ok, kRet_exc, r_retN, r_if, kSIf_t, kSIf_f, kSIf_exc, r_brk, r_cont, r_for, kFor_ok,
  kItA_ok, kIt_some, r_itL, r_itT, r_itS, r_itR1, r_itR2, r_itEn, r_asg, kAsg_ok, sTgO_some, tgM_nm, setAllM_nil, setAllM_cons, r_aug, kAug1_ok, kAug2_ok, r_fs, kFS1_ok, kFS2_ok, nxO_some, r_sl1, kSL1_ok, kSL2_ok, kSL3_ok, r_fnB, kFn_nx, kFn_rt, kFn_xc, r_lc, kLc_ok, r_yes, r_tgtp, kTg_ok, r_items, r_itemsT, kItems_ok, r_self, kSelf_ok, r_isiR, kIsi_ok, r_ty, kTy_l, r_getF, kGetF_ok, kLk_ok, lk_yes, r_setF, r_itLl, kItL_ok, r_isL, kIsL_ok, r_lApp, kApp_ok, r_getI, kGetI_ok, r_getIT, r_setI, kSetI_ok, kStO_ok, r_while, r_bm0, kBM0_ok, r_lClear, kClear_ok, r_len, kLen_ok, len_tup, r_sl4, kSl4_ok, stepQ_nx, stepQ_ct, stepQ_bk, stepQ_rt, stepQ_xc,
  Res.bind_ok, Res.bind_exc, Res.bind_stuck,
  List.map_cons, List.map_nil, List.length_cons, List.length_nil, List.replicate_succ, List.replicate_zero, List.cons_append, List.nil_append, List.append_nil, List.set_cons_succ, List.set_cons_zero, List.getElem?_cons_succ, List.getElem?_cons_zero,
  Nat.reduceAdd, Nat.reduceSub, Nat.zero_add, Nat.sub_self, Bool.not_true, Bool.not_false, eq_self_iff_true, lstD_ok, Nat.reduceLeDiff, hpw, md2, eq_int, ← hpar, hd, gT, x0', pfx_get pT V.g9, pfx_get pT V.g14, pfx_get pT V.g1, x0, cu, ← hU, q]
        exact ⟨ys', ys, ⟨B', (V.b2.pre pU).fr F' (by decide) (by decide) (by decide), F'.2 _ _ (by decide) (pfx_get pU V.g1), F'.2 _ _ (by decide) (pfx_get pU V.g9), F'.2 _ _ (by decide) (pfx_get pU V.g14), F'.2 _ _ (by decide) (pfx_get pU V.g15), o', V.o2⟩, by first | rfl | trivial⟩
      · obtain ⟨S', ys', q, B', o', F'⟩ := done_spec (w := w) (a := a) (n := n) (g := g) (s := s) (V.b2.pre pU) V.o2 (by omega) (by rw [V.b2.1.len]; omega) (by rw [V.b2.1.len]; omega) gU n09 s01
        simp -implicitDefEqProofs only [r_var, kVar_ok, r_c, r_op2, kOpA_ok, kOpA_exc, kOpB_ok, kOpB_exc, r_test, r_asB, r_and, r_or, r_not, kAnd_t, kAnd_f, kAnd_exc, kOr_t, kOr_f, kOr_exc, kNot_ok, kNot_exc, r_mand, r_mor, r_mnot, kMAnd_t, kMAnd_f, kMOr_t, kMOr_f, kMNot_ok, r_ife, kIfE_t, kIfE_f, kIfE_exc,
  r_anil, r_acons, kArg_ok, kArg_exc, kArgs_ok, kArgs_exc, r_tup, r_lst, r_fld, r_call, kCall_ok, kCall_exc, r_call0, noX_ok, r_meth, kM1_ok, kM1_exc, kM2_ok, kM2_stuck, kM3_ok, kM3_exc, r_meth0, kN1_ok, kN1_exc, kN2_ok, kN2_stuck, r_make, kMake_ok, mkEnd_ok, r_cb, r_isi, r_bm, kBM1_ok, kBM2_ok, r_alt, kAlt_ok, kAlt_exc, kAlt_stuck,
  r_sl, kSl1_ok, kSl2_ok, kSl3_ok, r_ptN, r_ptS, optI_ok, r_nil, r_seq, kSeq_nx, kSeq_rt, kSeq_xc, kSeq_bk, kSeq_ct, r_clr, kClr_nx, kClr_rt, kClr_xc, kClr_bk, kClr_ct, clr_nil, clr_cons, r_set, kSet_ok, kSet_exc, r_expr, kExpr_ok, kExpr_exc, r_ret, kRet_ok, kRet_exc, r_retN, r_if, kSIf_t, kSIf_f, kSIf_exc, r_brk, r_cont, r_for, kFor_ok,
  kItA_ok, kIt_some, r_itL, r_itT, r_itS, r_itR1, r_itR2, r_itEn, r_asg, kAsg_ok, sTgO_some, tgM_nm, setAllM_nil, setAllM_cons, r_aug, kAug1_ok, kAug2_ok, r_fs, kFS1_ok, kFS2_ok, nxO_some, r_sl1, kSL1_ok, kSL2_ok, kSL3_ok, r_fnB, kFn_nx, kFn_rt, kFn_xc, r_lc, kLc_ok, r_yes, r_tgtp, kTg_ok, r_items, r_itemsT, kItems_ok, r_self, kSelf_ok, r_isiR, kIsi_ok, r_ty, kTy_l, r_getF, kGetF_ok, kLk_ok, lk_yes, r_setF, r_itLl, kItL_ok, r_isL, kIsL_ok, r_lApp, kApp_ok, r_getI, kGetI_ok, r_getIT, r_setI, kSetI_ok, kStO_ok, r_while, r_bm0, kBM0_ok, r_lClear, kClear_ok, r_len, kLen_ok, len_tup, r_sl4, kSl4_ok, stepQ_nx, stepQ_ct, stepQ_bk, stepQ_rt, stepQ_xc,
  Res.bind_ok, Res.bind_exc, Res.bind_stuck,
  List.map_cons, List.map_nil, List.length_cons, List.length_nil, List.replicate_succ, List.replicate_zero, List.cons_append, List.nil_append, List.append_nil, List.set_cons_succ, List.set_cons_zero, List.getElem?_cons_succ, List.getElem?_cons_zero,
  Nat.reduceAdd, Nat.reduceSub, Nat.zero_add, Nat.sub_self, Bool.not_true, Bool.not_false, eq_self_iff_true, lstD_ok, Nat.reduceLeDiff, hpw, md2, eq_int, ← hpar, hd, gT, x0', pfx_get pT V.g9, pfx_get pT V.g14, pfx_get pT V.g1, x1, cu, ← hU, q]
        exact ⟨xs, ys', ⟨(V.b1.pre pU).fr F' (by decide) (by decide) (by decide), B', F'.2 _ _ (by decide) (pfx_get pU V.g1), F'.2 _ _ (by decide) (pfx_get pU V.g9), F'.2 _ _ (by decide) (pfx_get pU V.g14), F'.2 _ _ (by decide) (pfx_get pU V.g15), V.o1, o'⟩, by first | rfl | trivial⟩
    · rintro ρ S ⟨xs, ys, V, rfl⟩
      exact ⟨S, xs, ys, V, rfl⟩
  obtain ⟨S, xs, ys, V, rfl⟩ := hres
  simp -implicitDefEqProofs only [r_var, kVar_ok, r_c, r_op2, kOpA_ok, kOpA_exc, kOpB_ok, kOpB_exc, r_test, r_asB, r_and, r_or, r_not, kAnd_t, kAnd_f, kAnd_exc, kOr_t, kOr_f, kOr_exc, kNot_ok, kNot_exc, r_mand, r_mor, r_mnot, kMAnd_t, kMAnd_f, kMOr_t, kMOr_f, kMNot_ok, r_ife, kIfE_t, kIfE_f, kIfE_exc,
  r_anil, r_acons, kArg_ok, kArg_exc, kArgs_ok, kArgs_exc, r_tup, r_lst, r_fld, r_call, kCall_ok, kCall_exc, r_call0, noX_ok, r_meth, kM1_ok, kM1_exc, kM2_ok, kM2_stuck, kM3_ok, kM3_exc, r_meth0, kN1_ok, kN1_exc, kN2_ok, kN2_stuck, r_make, kMake_ok, mkEnd_ok, r_cb, r_isi, r_bm, kBM1_ok, kBM2_ok, r_alt, kAlt_ok, kAlt_exc, kAlt_stuck,
  r_sl, kSl1_ok, kSl2_ok, kSl3_ok, r_ptN, r_ptS, optI_ok, r_nil, r_seq, kSeq_nx, kSeq_rt, kSeq_xc, kSeq_bk, kSeq_ct, r_clr, kClr_nx, kClr_rt, kClr_xc, kClr_bk, kClr_ct, clr_nil, clr_cons, r_set, kSet_ok, kSet_exc, r_expr, kExpr_ok, kExpr_exc, r_ret, kRet_ok, kRet_exc, r_retN, r_if, kSIf_t, kSIf_f, kSIf_exc, r_brk, r_cont, r_for, kFor_ok,
  kItA_ok, kIt_some, r_itL, r_itT, r_itS, r_itR1, r_itR2, r_itEn, r_asg, kAsg_ok, sTgO_some, tgM_nm, setAllM_nil, setAllM_cons, r_aug, kAug1_ok, kAug2_ok, r_fs, kFS1_ok, kFS2_ok, nxO_some, r_sl1, kSL1_ok, kSL2_ok, kSL3_ok, r_fnB, kFn_nx, kFn_rt, kFn_xc, r_lc, kLc_ok, r_yes, r_tgtp, kTg_ok, r_items, r_itemsT, kItems_ok, r_self, kSelf_ok, r_isiR, kIsi_ok, r_ty, kTy_l, r_getF, kGetF_ok, kLk_ok, lk_yes, r_setF, r_itLl, kItL_ok, r_isL, kIsL_ok, r_lApp, kApp_ok, r_getI, kGetI_ok, r_getIT, r_setI, kSetI_ok, kStO_ok, r_while, r_bm0, kBM0_ok, r_lClear, kClear_ok, r_len, kLen_ok, len_tup, r_sl4, kSl4_ok, stepQ_nx, stepQ_ct, stepQ_bk, stepQ_rt, stepQ_xc,
  Res.bind_ok, Res.bind_exc, Res.bind_stuck,
  List.map_cons, List.map_nil, List.length_cons, List.length_nil, List.replicate_succ, List.replicate_zero, List.cons_append, List.nil_append, List.append_nil, List.set_cons_succ, List.set_cons_zero, List.getElem?_cons_succ, List.getElem?_cons_zero,
  Nat.reduceAdd, Nat.reduceSub, Nat.zero_add, Nat.sub_self, Bool.not_true, Bool.not_false, eq_self_iff_true, itR1_ok (show (0 : Int) ≤ 2 by decide) (by decide)]
  generalize hf2 : forGo _ _ _ _ _ _ _ = res2
  have hlc : ∀ (S : Sto) (r l li many cells : Nat) (xs : List D) (rr : Rho) (mo : MEx), BothAt S r l li many cells xs → xs.length ≤ 80 → rr.length = 10 → (∀ (acc : List D) (v : D), mo (rr.set 9 (some v)) (S ++ [.lst false acc]) = .ok (.loc r) (S ++ [.lst false acc])) →
      lcGo ⟨rngGet 0 xs.length, xs.length + 1⟩ (.nm 9) tYesM (mMeth .Rooms 2 f_Rooms_read mo (aCons (mVar 9) aNil)) rr S.length (xs.length + 1) 0 (S ++ [.lst false []]) = .ok (.loc S.length) (S ++ [.lst false xs]) := by
    intro S r l li many cells xs rr mo B hx hrl hmo
    have := lc_pure (it := ⟨rngGet 0 xs.length, xs.length + 1⟩) (t := .nm 9) (tt := tYesM) (me := mMeth .Rooms 2 f_Rooms_read mo (aCons (mVar 9) aNil)) (ρ := rr) (m := xs.length + 1) (S0 := S) ((List.range xs.length).map fun k : Nat => D.int (0 + k)) (fun _ => true) (fun x => match x with | .int k => xs.getD k.toNat .non | x => x) (fun i acc => @rng_get 0 xs.length i (S ++ [.lst false acc])) ?_ (by simp; omega) (by simp)
    · rw [this, List.filter_eq_self.mpr (fun _ _ => rfl), List.map_map]
      have e : ∀ k : Nat, ((fun x : D => match x with | .int k => xs.getD k.toNat .non | x => x) ∘ fun k : Nat => D.int (0 + k)) k = xs.getD k .non := by
        intro k
        show xs.getD ((0 : Int) + (k : Int)).toNat .non = _
        rw [Int.zero_add, Int.toNat_natCast]
      rw [funext e]
      have e2 : (List.range xs.length).map (fun k => xs.getD k .non) = xs := by
        apply List.ext_getElem?
        intro i
        rw [List.getElem?_map]
        by_cases hi : i < xs.length
        · simp [hi, List.getD]
        · rw [List.getElem?_eq_none (by simp; omega), List.getElem?_eq_none (by omega)]; rfl
      rw [e2]
    · intro x hx acc
      obtain ⟨k, hk, rfl⟩ := List.mem_map.mp hx
      have hk2 : k < xs.length := List.mem_range.mp hk
      refine ⟨_, rfl, rfl, fun _ => ?_⟩
      have R' := B.1.pre (S' := S ++ [.lst false acc]) ⟨_, rfl⟩
      have ek : xs[k]? = some (xs.getD k .non) := by simp [List.getD, hk2]
      have hv : (rr.set 9 (some (D.int (k : Int))))[9]? = some (some (.int (k : Int))) := by
        rw [List.getElem?_set_self (by omega)]
      simp -implicitDefEqProofs only [r_var, kVar_ok, r_c, r_op2, kOpA_ok, kOpA_exc, kOpB_ok, kOpB_exc, r_test, r_asB, r_and, r_or, r_not, kAnd_t, kAnd_f, kAnd_exc, kOr_t, kOr_f, kOr_exc, kNot_ok, kNot_exc, r_mand, r_mor, r_mnot, kMAnd_t, kMAnd_f, kMOr_t, kMOr_f, kMNot_ok, r_ife, kIfE_t, kIfE_f, kIfE_exc,
  r_anil, r_acons, kArg_ok, kArg_exc, kArgs_ok, kArgs_exc, r_tup, r_lst, r_fld, r_call, kCall_ok, kCall_exc, r_call0, noX_ok, r_meth, kM1_ok, kM1_exc, kM2_ok, kM2_stuck, kM3_ok, kM3_exc, r_meth0, kN1_ok, kN1_exc, kN2_ok, kN2_stuck, r_make, kMake_ok, mkEnd_ok, r_cb, r_isi, r_bm, kBM1_ok, kBM2_ok, r_alt, kAlt_ok, kAlt_exc, kAlt_stuck,
  r_sl, kSl1_ok, kSl2_ok, kSl3_ok, r_ptN, r_ptS, optI_ok, r_nil, r_seq, kSeq_nx, kSeq_rt, kSeq_xc, kSeq_bk, kSeq_ct, r_clr, kClr_nx, kClr_rt, kClr_xc, kClr_bk, kClr_ct, clr_nil, clr_cons, r_set, kSet_ok, kSet_exc, r_expr, kExpr_ok, kExpr_exc, r_ret, kRet_ok, kRet_exc, r_retN, r_if, kSIf_t, kSIf_f, kSIf_exc, r_brk, r_cont, r_for, kFor_ok,
  kItA_ok, kIt_some, r_itL, r_itT, r_itS, r_itR1, r_itR2, r_itEn, r_asg, kAsg_ok, sTgO_some, tgM_nm, setAllM_nil, setAllM_cons, r_aug, kAug1_ok, kAug2_ok, r_fs, kFS1_ok, kFS2_ok, nxO_some, r_sl1, kSL1_ok, kSL2_ok, kSL3_ok, r_fnB, kFn_nx, kFn_rt, kFn_xc, r_lc, kLc_ok, r_yes, r_tgtp, kTg_ok, r_items, r_itemsT, kItems_ok, r_self, kSelf_ok, r_isiR, kIsi_ok, r_ty, kTy_l, r_getF, kGetF_ok, kLk_ok, lk_yes, r_setF, r_itLl, kItL_ok, r_isL, kIsL_ok, r_lApp, kApp_ok, r_getI, kGetI_ok, r_getIT, r_setI, kSetI_ok, kStO_ok, r_while, r_bm0, kBM0_ok, r_lClear, kClear_ok, r_len, kLen_ok, len_tup, r_sl4, kSl4_ok, stepQ_nx, stepQ_ct, stepQ_bk, stepQ_rt, stepQ_xc,
  Res.bind_ok, Res.bind_exc, Res.bind_stuck,
  List.map_cons, List.map_nil, List.length_cons, List.length_nil, List.replicate_succ, List.replicate_zero, List.cons_append, List.nil_append, List.append_nil, List.set_cons_succ, List.set_cons_zero, List.getElem?_cons_succ, List.getElem?_cons_zero,
  Nat.reduceAdd, Nat.reduceSub, Nat.zero_add, Nat.sub_self, Bool.not_true, Bool.not_false, eq_self_iff_true, hmo, hv, Int.zero_add, R'.obj, read_spec R' ek, Int.toNat_natCast]
  have hres2 : ∃ S, res2 = .nx [some (.loc 0), some (.int f), some (.loc 1), some (.loc 2), some (.loc 9), some (.loc 14), none, none, none, none] S := by
    refine forR hf2 (fun i ρ S => Lvl S c1 c2 m1 m2 zs xs ys ∧ ρ = [some (.loc 0), some (.int f), some (.loc 1), some (.loc 2), some (.loc 9), some (.loc 14), none, none, none, none])
      (fun res => ∃ S, res = .nx [some (.loc 0), some (.int f), some (.loc 1), some (.loc 2), some (.loc 9), some (.loc 14), none, none, none, none] S) (by decide) ⟨V, rfl⟩ ?_ ?_
    · rintro i ρ S hi ⟨V, rfl⟩
      refine ⟨_, rfl, ?_⟩
      have x14 := V.g14
      have x9 := V.g9
      have xl1 : xs.length ≤ 80 := by rw [V.b1.1.len]; omega
      have xl2 : ys.length ≤ 80 := by rw [V.b2.1.len]; omega
      have i01 : i = 0 ∨ i = 1 := by have : i < 2 := hi
                                     omega
      have pre : ∀ (xs : List D) (r l li many cells : Nat), BothAt S r l li many cells xs → Lvl (S ++ [O.lst false xs]) c1 c2 m1 m2 zs _ _ := fun _ _ _ _ _ _ _ => ⟨V.b1.pre ⟨_, rfl⟩, V.b2.pre ⟨_, rfl⟩, get_app V.g1, get_app V.g9, get_app V.g14, get_app V.g15, V.o1, V.o2⟩
      rcases i01 with rfl | rfl
      · have z0 : (0 : Int) + ((0 : Nat) : Int) = 0 := rfl
        have h := hlc S 3 5 11 m1 c1 xs [some (.loc 0), some (.int f), some (.loc 1), some (.loc 2), some (.loc 9), some (.loc 14), none, none, some (.int 0), none] (mOp2 getI (mVar 4) (mVar 8)) V.b1 xl1 rfl (by
          intro acc v
          simp -implicitDefEqProofs only [r_var, kVar_ok, r_c, r_op2, kOpA_ok, kOpA_exc, kOpB_ok, kOpB_exc, r_test, r_asB, r_and, r_or, r_not, kAnd_t, kAnd_f, kAnd_exc, kOr_t, kOr_f, kOr_exc, kNot_ok, kNot_exc, r_mand, r_mor, r_mnot, kMAnd_t, kMAnd_f, kMOr_t, kMOr_f, kMNot_ok, r_ife, kIfE_t, kIfE_f, kIfE_exc,
  r_anil, r_acons, kArg_ok, kArg_exc, kArgs_ok, kArgs_exc, r_tup, r_lst, r_fld, r_call, kCall_ok, kCall_exc, r_call0, noX_ok, r_meth, kM1_ok, kM1_exc, kM2_ok, kM2_stuck, kM3_ok, kM3_exc, r_meth0, kN1_ok, kN1_exc, kN2_ok, kN2_stuck, r_make, kMake_ok, mkEnd_ok, r_cb, r_isi, r_bm, kBM1_ok, kBM2_ok, r_alt, kAlt_ok, kAlt_exc, kAlt_stuck,
  r_sl, kSl1_ok, kSl2_ok, kSl3_ok, r_ptN, r_ptS, optI_ok, r_nil, r_seq, kSeq_nx, kSeq_rt, kSeq_xc, kSeq_bk, kSeq_ct, r_clr, kClr_nx, kClr_rt, kClr_xc, kClr_bk, kClr_ct, clr_nil, clr_cons, r_set, kSet_ok, kSet_exc, r_expr, kExpr_ok, kExpr_exc, r_ret, kRet_ok, kRet_exc, r_retN, r_if, kSIf_t, kSIf_f, kSIf_exc, r_brk, r_cont, r_for, kFor_ok,
  kItA_ok, kIt_some, r_itL, r_itT, r_itS, r_itR1, r_itR2, r_itEn, r_asg, kAsg_ok, sTgO_some, tgM_nm, setAllM_nil, setAllM_cons, r_aug, kAug1_ok, kAug2_ok, r_fs, kFS1_ok, kFS2_ok, nxO_some, r_sl1, kSL1_ok, kSL2_ok, kSL3_ok, r_fnB, kFn_nx, kFn_rt, kFn_xc, r_lc, kLc_ok, r_yes, r_tgtp, kTg_ok, r_items, r_itemsT, kItems_ok, r_self, kSelf_ok, r_isiR, kIsi_ok, r_ty, kTy_l, r_getF, kGetF_ok, kLk_ok, lk_yes, r_setF, r_itLl, kItL_ok, r_isL, kIsL_ok, r_lApp, kApp_ok, r_getI, kGetI_ok, r_getIT, r_setI, kSetI_ok, kStO_ok, r_while, r_bm0, kBM0_ok, r_lClear, kClear_ok, r_len, kLen_ok, len_tup, r_sl4, kSl4_ok, stepQ_nx, stepQ_ct, stepQ_bk, stepQ_rt, stepQ_xc,
  Res.bind_ok, Res.bind_exc, Res.bind_stuck,
  List.map_cons, List.map_nil, List.length_cons, List.length_nil, List.replicate_succ, List.replicate_zero, List.cons_append, List.nil_append, List.append_nil, List.set_cons_succ, List.set_cons_zero, List.getElem?_cons_succ, List.getElem?_cons_zero,
  Nat.reduceAdd, Nat.reduceSub, Nat.zero_add, Nat.sub_self, Bool.not_true, Bool.not_false, eq_self_iff_true, get_app x9, x0])
        have nq := ne_okvs (S := S ++ [.lst false xs]) (a := S.length) (b := 11) V.o1 (get_last _ _) (get_app V.b1.2.1)
        simp -implicitDefEqProofs only [r_var, kVar_ok, r_c, r_op2, kOpA_ok, kOpA_exc, kOpB_ok, kOpB_exc, r_test, r_asB, r_and, r_or, r_not, kAnd_t, kAnd_f, kAnd_exc, kOr_t, kOr_f, kOr_exc, kNot_ok, kNot_exc, r_mand, r_mor, r_mnot, kMAnd_t, kMAnd_f, kMOr_t, kMOr_f, kMNot_ok, r_ife, kIfE_t, kIfE_f, kIfE_exc,
  r_anil, r_acons, kArg_ok, kArg_exc, kArgs_ok, kArgs_exc, r_tup, r_lst, r_fld, r_call, kCall_ok, kCall_exc, r_call0, noX_ok, r_meth, kM1_ok, kM1_exc, kM2_ok, kM2_stuck, kM3_ok, kM3_exc, r_meth0, kN1_ok, kN1_exc, kN2_ok, kN2_stuck, r_make, kMake_ok, mkEnd_ok, r_cb, r_isi, r_bm, kBM1_ok, kBM2_ok, r_alt, kAlt_ok, kAlt_exc, kAlt_stuck,
  r_sl, kSl1_ok, kSl2_ok, kSl3_ok, r_ptN, r_ptS, optI_ok, r_nil, r_seq, kSeq_nx, kSeq_rt, kSeq_xc, kSeq_bk, kSeq_ct, r_clr, kClr_nx, kClr_rt, kClr_xc, kClr_bk, kClr_ct, clr_nil, clr_cons, r_set, kSet_ok, kSet_exc, r_expr, kExpr_ok, kExpr_exc, r_ret, kRet_ok, kRet_exc, r_retN, r_if, kSIf_t, kSIf_f, kSIf_exc, r_brk, r_cont, r_for, kFor_ok,
  kItA_ok, kIt_some, r_itL, r_itT, r_itS, r_itR1, r_itR2, r_itEn, r_asg, kAsg_ok, sTgO_some, tgM_nm, setAllM_nil, setAllM_cons, r_aug, kAug1_ok, kAug2_ok, r_fs, kFS1_ok, kFS2_ok, nxO_some, r_sl1, kSL1_ok, kSL2_ok, kSL3_ok, r_fnB, kFn_nx, kFn_rt, kFn_xc, r_lc, kLc_ok, r_yes, r_tgtp, kTg_ok, r_items, r_itemsT, kItems_ok, r_self, kSelf_ok, r_isiR, kIsi_ok, r_ty, kTy_l, r_getF, kGetF_ok, kLk_ok, lk_yes, r_setF, r_itLl, kItL_ok, r_isL, kIsL_ok, r_lApp, kApp_ok, r_getI, kGetI_ok, r_getIT, r_setI, kSetI_ok, kStO_ok, r_while, r_bm0, kBM0_ok, r_lClear, kClear_ok, r_len, kLen_ok, len_tup, r_sl4, kSl4_ok, stepQ_nx, stepQ_ct, stepQ_bk, stepQ_rt, stepQ_xc,
  Res.bind_ok, Res.bind_exc, Res.bind_stuck,
  List.map_cons, List.map_nil, List.length_cons, List.length_nil, List.replicate_succ, List.replicate_zero, List.cons_append, List.nil_append, List.append_nil, List.set_cons_succ, List.set_cons_zero, List.getElem?_cons_succ, List.getElem?_cons_zero,
  Nat.reduceAdd, Nat.reduceSub, Nat.zero_add, Nat.sub_self, Bool.not_true, Bool.not_false, eq_self_iff_true, z0, x14, x0, V.b1.2.1, itR1_ok (show (0 : Int) ≤ (xs.length : Int) by omega) (show (xs.length : Int) < 2 ^ 62 by omega), Int.toNat_natCast, h, get_app x14, nq]
        exact ⟨pre xs 3 5 11 m1 c1 V.b1, by first | rfl | trivial⟩
      · have z0 : (0 : Int) + ((1 : Nat) : Int) = 1 := rfl
        have h := hlc S 6 8 13 m2 c2 ys [some (.loc 0), some (.int f), some (.loc 1), some (.loc 2), some (.loc 9), some (.loc 14), none, none, some (.int 1), none] (mOp2 getI (mVar 4) (mVar 8)) V.b2 xl2 rfl (by
          intro acc v
          simp -implicitDefEqProofs only [r_var, kVar_ok, r_c, r_op2, kOpA_ok, kOpA_exc, kOpB_ok, kOpB_exc, r_test, r_asB, r_and, r_or, r_not, kAnd_t, kAnd_f, kAnd_exc, kOr_t, kOr_f, kOr_exc, kNot_ok, kNot_exc, r_mand, r_mor, r_mnot, kMAnd_t, kMAnd_f, kMOr_t, kMOr_f, kMNot_ok, r_ife, kIfE_t, kIfE_f, kIfE_exc,
  r_anil, r_acons, kArg_ok, kArg_exc, kArgs_ok, kArgs_exc, r_tup, r_lst, r_fld, r_call, kCall_ok, kCall_exc, r_call0, noX_ok, r_meth, kM1_ok, kM1_exc, kM2_ok, kM2_stuck, kM3_ok, kM3_exc, r_meth0, kN1_ok, kN1_exc, kN2_ok, kN2_stuck, r_make, kMake_ok, mkEnd_ok, r_cb, r_isi, r_bm, kBM1_ok, kBM2_ok, r_alt, kAlt_ok, kAlt_exc, kAlt_stuck,
  r_sl, kSl1_ok, kSl2_ok, kSl3_ok, r_ptN, r_ptS, optI_ok, r_nil, r_seq, kSeq_nx, kSeq_rt, kSeq_xc, kSeq_bk, kSeq_ct, r_clr, kClr_nx, kClr_rt, kClr_xc, kClr_bk, kClr_ct, clr_nil, clr_cons, r_set, kSet_ok, kSet_exc, r_expr, kExpr_ok, kExpr_exc, r_ret, kRet_ok, kRet_exc, r_retN, r_if, kSIf_t, kSIf_f, kSIf_exc, r_brk, r_cont, r_for, kFor_ok,
  kItA_ok, kIt_some, r_itL, r_itT, r_itS, r_itR1, r_itR2, r_itEn, r_asg, kAsg_ok, sTgO_some, tgM_nm, setAllM_nil, setAllM_cons, r_aug, kAug1_ok, kAug2_ok, r_fs, kFS1_ok, kFS2_ok, nxO_some, r_sl1, kSL1_ok, kSL2_ok, kSL3_ok, r_fnB, kFn_nx, kFn_rt, kFn_xc, r_lc, kLc_ok, r_yes, r_tgtp, kTg_ok, r_items, r_itemsT, kItems_ok, r_self, kSelf_ok, r_isiR, kIsi_ok, r_ty, kTy_l, r_getF, kGetF_ok, kLk_ok, lk_yes, r_setF, r_itLl, kItL_ok, r_isL, kIsL_ok, r_lApp, kApp_ok, r_getI, kGetI_ok, r_getIT, r_setI, kSetI_ok, kStO_ok, r_while, r_bm0, kBM0_ok, r_lClear, kClear_ok, r_len, kLen_ok, len_tup, r_sl4, kSl4_ok, stepQ_nx, stepQ_ct, stepQ_bk, stepQ_rt, stepQ_xc,
  Res.bind_ok, Res.bind_exc, Res.bind_stuck,
  List.map_cons, List.map_nil, List.length_cons, List.length_nil, List.replicate_succ, List.replicate_zero, List.cons_append, List.nil_append, List.append_nil, List.set_cons_succ, List.set_cons_zero, List.getElem?_cons_succ, List.getElem?_cons_zero,
  Nat.reduceAdd, Nat.reduceSub, Nat.zero_add, Nat.sub_self, Bool.not_true, Bool.not_false, eq_self_iff_true, get_app x9, x1])
        have nq := ne_okvs (S := S ++ [.lst false ys]) (a := S.length) (b := 13) V.o2 (get_last _ _) (get_app V.b2.2.1)
        simp -implicitDefEqProofs only [r_var, kVar_ok, r_c, r_op2, kOpA_ok, kOpA_exc, kOpB_ok, kOpB_exc, r_test, r_asB, r_and, r_or, r_not, kAnd_t, kAnd_f, kAnd_exc, kOr_t, kOr_f, kOr_exc, kNot_ok, kNot_exc, r_mand, r_mor, r_mnot, kMAnd_t, kMAnd_f, kMOr_t, kMOr_f, kMNot_ok, r_ife, kIfE_t, kIfE_f, kIfE_exc,
  r_anil, r_acons, kArg_ok, kArg_exc, kArgs_ok, kArgs_exc, r_tup, r_lst, r_fld, r_call, kCall_ok, kCall_exc, r_call0, noX_ok, r_meth, kM1_ok, kM1_exc, kM2_ok, kM2_stuck, kM3_ok, kM3_exc, r_meth0, kN1_ok, kN1_exc, kN2_ok, kN2_stuck, r_make, kMake_ok, mkEnd_ok, r_cb, r_isi, r_bm, kBM1_ok, kBM2_ok, r_alt, kAlt_ok, kAlt_exc, kAlt_stuck,
  r_sl, kSl1_ok, kSl2_ok, kSl3_ok, r_ptN, r_ptS, optI_ok, r_nil, r_seq, kSeq_nx, kSeq_rt, kSeq_xc, kSeq_bk, kSeq_ct, r_clr, kClr_nx, kClr_rt, kClr_xc, kClr_bk, kClr_ct, clr_nil, clr_cons, r_set, kSet_ok, kSet_exc, r_expr, kExpr_ok, kExpr_exc, r_ret, kRet_ok, kRet_exc, r_retN, r_if, kSIf_t, kSIf_f, kSIf_exc, r_brk, r_cont, r_for, kFor_ok,
  kItA_ok, kIt_some, r_itL, r_itT, r_itS, r_itR1, r_itR2, r_itEn, r_asg, kAsg_ok, sTgO_some, tgM_nm, setAllM_nil, setAllM_cons, r_aug, kAug1_ok, kAug2_ok, r_fs, kFS1_ok, kFS2_ok, nxO_some, r_sl1, kSL1_ok, kSL2_ok, kSL3_ok, r_fnB, kFn_nx, kFn_rt, kFn_xc, r_lc, kLc_ok, r_yes, r_tgtp, kTg_ok, r_items, r_itemsT, kItems_ok, r_self, kSelf_ok, r_isiR, kIsi_ok, r_ty, kTy_l, r_getF, kGetF_ok, kLk_ok, lk_yes, r_setF, r_itLl, kItL_ok, r_isL, kIsL_ok, r_lApp, kApp_ok, r_getI, kGetI_ok, r_getIT, r_setI, kSetI_ok, kStO_ok, r_while, r_bm0, kBM0_ok, r_lClear, kClear_ok, r_len, kLen_ok, len_tup, r_sl4, kSl4_ok, stepQ_nx, stepQ_ct, stepQ_bk, stepQ_rt, stepQ_xc,
  Res.bind_ok, Res.bind_exc, Res.bind_stuck,
  List.map_cons, List.map_nil, List.length_cons, List.length_nil, List.replicate_succ, List.replicate_zero, List.cons_append, List.nil_append, List.append_nil, List.set_cons_succ, List.set_cons_zero, List.getElem?_cons_succ, List.getElem?_cons_zero,
  Nat.reduceAdd, Nat.reduceSub, Nat.zero_add, Nat.sub_self, Bool.not_true, Bool.not_false, eq_self_iff_true, z0, x14, x1, V.b2.2.1, itR1_ok (show (0 : Int) ≤ (ys.length : Int) by omega) (show (ys.length : Int) < 2 ^ 62 by omega), Int.toNat_natCast, h, get_app x14, nq]
        exact ⟨pre ys 6 8 13 m2 c2 V.b2, by first | rfl | trivial⟩
    · rintro ρ S ⟨V, rfl⟩
      exact ⟨S, rfl⟩
  obtain ⟨S', rfl⟩ := hres2
  simp -implicitDefEqProofs only [r_var, kVar_ok, r_c, r_op2, kOpA_ok, kOpA_exc, kOpB_ok, kOpB_exc, r_test, r_asB, r_and, r_or, r_not, kAnd_t, kAnd_f, kAnd_exc, kOr_t, kOr_f, kOr_exc, kNot_ok, kNot_exc, r_mand, r_mor, r_mnot, kMAnd_t, kMAnd_f, kMOr_t, kMOr_f, kMNot_ok, r_ife, kIfE_t, kIfE_f, kIfE_exc,
  r_anil, r_acons, kArg_ok, kArg_exc, kArgs_ok, kArgs_exc, r_tup, r_lst, r_fld, r_call, kCall_ok, kCall_exc, r_call0, noX_ok, r_meth, kM1_ok, kM1_exc, kM2_ok, kM2_stuck, kM3_ok, kM3_exc, r_meth0, kN1_ok, kN1_exc, kN2_ok, kN2_stuck, r_make, kMake_ok, mkEnd_ok, r_cb, r_isi, r_bm, kBM1_ok, kBM2_ok, r_alt, kAlt_ok, kAlt_exc, kAlt_stuck,
  r_sl, kSl1_ok, kSl2_ok, kSl3_ok, r_ptN, r_ptS, optI_ok, r_nil, r_seq, kSeq_nx, kSeq_rt, kSeq_xc, kSeq_bk, kSeq_ct, r_clr, kClr_nx, kClr_rt, kClr_xc, kClr_bk, kClr_ct, clr_nil, clr_cons, r_set, kSet_ok, kSet_exc, r_expr, kExpr_ok, kExpr_exc, r_ret, kRet_ok, kRet_exc, r_retN, r_if, kSIf_t, kSIf_f, kSIf_exc, r_brk, r_cont, r_for, kFor_ok,
  kItA_ok, kIt_some, r_itL, r_itT, r_itS, r_itR1, r_itR2, r_itEn, r_asg, kAsg_ok, sTgO_some, tgM_nm, setAllM_nil, setAllM_cons, r_aug, kAug1_ok, kAug2_ok, r_fs, kFS1_ok, kFS2_ok, nxO_some, r_sl1, kSL1_ok, kSL2_ok, kSL3_ok, r_fnB, kFn_nx, kFn_rt, kFn_xc, r_lc, kLc_ok, r_yes, r_tgtp, kTg_ok, r_items, r_itemsT, kItems_ok, r_self, kSelf_ok, r_isiR, kIsi_ok, r_ty, kTy_l, r_getF, kGetF_ok, kLk_ok, lk_yes, r_setF, r_itLl, kItL_ok, r_isL, kIsL_ok, r_lApp, kApp_ok, r_getI, kGetI_ok, r_getIT, r_setI, kSetI_ok, kStO_ok, r_while, r_bm0, kBM0_ok, r_lClear, kClear_ok, r_len, kLen_ok, len_tup, r_sl4, kSl4_ok, stepQ_nx, stepQ_ct, stepQ_bk, stepQ_rt, stepQ_xc,
  Res.bind_ok, Res.bind_exc, Res.bind_stuck,
  List.map_cons, List.map_nil, List.length_cons, List.length_nil, List.replicate_succ, List.replicate_zero, List.cons_append, List.nil_append, List.append_nil, List.set_cons_succ, List.set_cons_zero, List.getElem?_cons_succ, List.getElem?_cons_zero,
  Nat.reduceAdd, Nat.reduceSub, Nat.zero_add, Nat.sub_self, Bool.not_true, Bool.not_false, eq_self_iff_true]
  exact ⟨_, rfl⟩
end MP

set_option Elab.async false
set_option linter.all false
set_option maxRecDepth 100000
set_option maxHeartbeats 4000000
open PySem PySem.W PyProof.Rows
set_option maxRecDepth 100000 in
set_option maxHeartbeats 0 in
theorem PySem.Challenge.cw_heapsafe_k05_cells_holds : PySem.Challenge.rw_heapsafe_k05_cells.Holds := by
  w_on; o_law; k_head; (case hw => w_witness2)
  k_fill
  refine MP.walk (l := PySem.Challenge.rw_heapsafe_k05_cells) rfl rfl MP.law_true (fun w h Y => PySem.W.kIn_of Y) ?F
  case F =>
    intro w mg fa h KX Gn hmg
    refine' MP.all_mk KX Gn hmg ?aC_Rooms ?pg_Rooms ?hd_Rooms ?po_Rooms ?sa_Rooms ?mk_Rooms ?kc_Rooms ?n_Rooms_many ?n_Rooms_cells ?n_Rooms_inside ?g_law_cell_at ?l_law_cell_at ?c_law_cell_at1 ?k_law_cell_at ?g_law_run ?l_law_run ?c_law_run1 ?k_law_run ?l_Rooms_fill_in ?c_Rooms_fill_in1 ?k_Rooms_fill_in ?i_Rooms_fill_in ?l_Rooms_read ?c_Rooms_read1 ?k_Rooms_read ?i_Rooms_read ?l_Rooms_set_free ?c_Rooms_set_free1 ?k_Rooms_set_free ?i_Rooms_set_free ?l_Rooms_write ?c_Rooms_write1 ?k_Rooms_write ?i_Rooms_write ?g_law_done ?l_law_done ?c_law_done1 ?k_law_done ?g_law_drawn ?l_law_drawn ?c_law_drawn1 ?k_law_drawn ?l_Rooms_init ?c_Rooms_init1 ?k_Rooms_init ?i_Rooms_init ?g_law ?l_law ?c_law1 ?k_law ?f_Rooms_init1 ?f_Rooms_fill_in1 ?f_Rooms_read1 ?f_Rooms_set_free1 ?f_Rooms_write1 ?z_abs ?z_enumerate ?z_len ?z_range MP.law_true
    (case aC_Rooms => k_is)
    (case f_Rooms_init1 => k_is)
    (case f_Rooms_fill_in1 => k_is)
    (case f_Rooms_read1 => k_is)
    (case f_Rooms_set_free1 => k_is)
    (case f_Rooms_write1 => k_is)
    (case pg_Rooms => k_is)
    (case hd_Rooms => k_is)
    (case po_Rooms => k_is)
    (case sa_Rooms => k_is)
    (case mk_Rooms => k_is)
    (case kc_Rooms => k_is)
    (case n_Rooms_many => k_is)
    (case n_Rooms_cells => k_is)
    (case n_Rooms_inside => k_is)
    (case g_law_cell_at => k_is)
    (case l_law_cell_at => k_is)
    (case c_law_cell_at1 => k_is)
    (case k_law_cell_at => k_is)
    (case g_law_run => k_is)
    (case l_law_run => k_is)
    (case c_law_run1 => k_is)
    (case k_law_run => k_is)
    (case l_Rooms_fill_in => k_is)
    (case c_Rooms_fill_in1 => k_is)
    (case k_Rooms_fill_in => k_is)
    (case i_Rooms_fill_in => k_is)
    (case l_Rooms_read => k_is)
    (case c_Rooms_read1 => k_is)
    (case k_Rooms_read => k_is)
    (case i_Rooms_read => k_is)
    (case l_Rooms_set_free => k_is)
    (case c_Rooms_set_free1 => k_is)
    (case k_Rooms_set_free => k_is)
    (case i_Rooms_set_free => k_is)
    (case l_Rooms_write => k_is)
    (case c_Rooms_write1 => k_is)
    (case k_Rooms_write => k_is)
    (case i_Rooms_write => k_is)
    (case g_law_done => k_is)
    (case l_law_done => k_is)
    (case c_law_done1 => k_is)
    (case k_law_done => k_is)
    (case g_law_drawn => k_is)
    (case l_law_drawn => k_is)
    (case c_law_drawn1 => k_is)
    (case k_law_drawn => k_is)
    (case l_Rooms_init => k_is)
    (case c_Rooms_init1 => k_is)
    (case k_Rooms_init => k_is)
    (case i_Rooms_init => k_is)
    (case g_law => k_is)
    (case l_law => k_is)
    (case c_law1 => k_is)
    (case k_law => k_is)
    (case z_abs => k_is)
    (case z_enumerate => k_is)
    (case z_len => k_is)
    (case z_range => k_is)
#print axioms PySem.Challenge.cw_heapsafe_k05_cells_holds
