import PyProof.Rows.All
import Wide.All
import OpenK.AllK
import Wide.FinOn
import PyProof.EqAt
import PyProof.EqKinds
import PyProof.TupleCall
import HandS.ForMost
import HandS.ForExc
import HandS.TryMany
import HandS.Wide
import HandS.WideBits
import HandS.IsInst
import HandS.CallSlots
import HandS.ClsMeth
import HandS.SortInts
import HandS.Strs
import HandS.Dict
import HandS.More
import HandS.New0
import HandS.DictComp
import HandS.Iter
import HandS.SortRule
import HandS.Finally
import HandS.ExcOwn
import HandS.Deep
import KE.KEqNest
import HandS.TupMul
import HandS.Conv
import HandS.Rev
import HandS.RevTup
import HandS.StrMore
import HandS.TupAny
import KE.KExcIs
import KE.KExcRaise
import HandS.TryOnly
import HandS.ExcIs
import HandS.ExcField
import HandS.ExcInit
import HandS.ExcValue
import HandS.SuiteRaise
import KE.KIntText
import KE.GoesZip
import KE.GoesMore
import HandS.Text
import HandS.Steps
import HandS.RaiseMore
import HandS.Zip
import HandS.Words
import PyProof.Draws
import KE.GoesEnumKw
import HandS.Call
import PyProof.StrBlock2
import HandS.HotCalls
import HandS.EndBits
import PySem.Challenge.RW_heapsafe_k80_logs_both_ways
import HandS.Codes
set_option Elab.async false
set_option linter.all false
set_option maxRecDepth 100000
set_option maxHeartbeats 2000000
namespace MP
open PySem L2

/-! ### values, objects, stores -/
inductive Cl where
  | Rooms | Thing | Plain | Pair | PlainHeap | Looker | Memory | Marking | Fence | New | Old | Heap | Desk
  deriving DecidableEq
inductive Fl where
  | many | cells | inside | row | last_words | named | made | line | heap | part | to_go | gone | rooms | memory | marking | fence | rows | phase | room
  deriving DecidableEq
def Cl.nm : Cl → Str
  | .Rooms => "Rooms" | .Thing => "Thing" | .Plain => "Plain" | .Pair => "Pair" | .PlainHeap => "PlainHeap" | .Looker => "Looker" | .Memory => "Memory"
  | .Marking => "Marking" | .Fence => "Fence" | .New => "New" | .Old => "Old" | .Heap => "Heap" | .Desk => "Desk"
def Fl.nm : Fl → Str
  | .many => "many" | .cells => "cells" | .inside => "inside" | .row => "row" | .last_words => "last_words" | .named => "named" | .made => "made"
  | .line => "line" | .heap => "heap" | .part => "part" | .to_go => "to_go" | .gone => "gone" | .rooms => "rooms" | .memory => "memory"
  | .marking => "marking" | .fence => "fence" | .rows => "rows" | .phase => "phase" | .room => "room"
/-- an own exception's class -/
inductive Xc where
  | NoDeed | NoLog | NoThing | NoField | NoRoom
  deriving DecidableEq
inductive D where
  | non | bl (b : Bool) | int (i : Int) | str (x : Str) | tup (xs : List D) | vl (xs : List D) | cl (xs : List D) | vd (ks : List Key) (xs : List D) | vo (c : Cl) (fs : List Fl) (xs : List D) | xv (c : Xc) (xs : List D) | loc (l : Nat)
mutual
/-- no object of the store in it -/
def D.pureB : D → Bool
  | .loc _ => false
  | .tup xs => pureAll xs
  | _ => true
def pureAll : List D → Bool
  | [] => true
  | x :: xs => x.pureB && pureAll xs
end
mutual
/-- no object of the store from n on in it -/
def D.low (n : Nat) : D → Bool
  | .loc l => decide (l < n)
  | .tup xs => lowAll n xs
  | _ => true
def lowAll (n : Nat) : List D → Bool
  | [] => true
  | x :: xs => x.low n && lowAll n xs
end
inductive O where
  | lst (xs : List D)
  | dct (fz : Bool) (kvs : List (Key × D))
  | ins (c : Cl) (fs : List (Fl × D))
abbrev Sto := List O
abbrev Rho := List (Option D)
structure Ex where
  c : Xc
  v : Option D
inductive Res (α : Type) where
  | ok (a : α) (S : Sto) | exc (e : Ex) (S : Sto) | stuck
inductive SR where
  | nx (ρ : Rho) (S : Sto) | rt (d : D) (S : Sto) | bk (ρ : Rho) (S : Sto) | ct (ρ : Rho) (S : Sto) | xc (e : Ex) (ρ : Rho) (S : Sto) | stuck
def Res.bind {α β : Type} (r : Res α) (f : α → Sto → Res β) : Res β :=
  match r with
  | .ok a S => f a S
  | .exc e S => .exc e S
  | .stuck => .stuck
@[simp] theorem Res.bind_ok {α β : Type} (a : α) (S : Sto) (f : α → Sto → Res β) : (Res.ok a S).bind f = f a S := rfl
@[simp] theorem Res.bind_exc {α β : Type} (e : Ex) (S : Sto) (f : α → Sto → Res β) : (Res.exc e S).bind f = .exc e S := rfl
@[simp] theorem Res.bind_stuck {α β : Type} (f : α → Sto → Res β) : (Res.stuck : Res α).bind f = .stuck := rfl
abbrev MEx := Rho → Sto → Res D
abbrev MTs := Rho → Sto → Res Bool
abbrev MAr := Rho → Sto → Res (List D)
abbrev MSt := Rho → Sto → SR
abbrev MFn := List D → Sto → Res D
def Res.st {α : Type} (r : Res α) (ρ : Rho) (f : α → Sto → SR) : SR :=
  match r with
  | .ok a S => f a S
  | .exc e S => .xc e ρ S
  | .stuck => .stuck
@[simp] theorem Res.st_ok {α : Type} (a : α) (S : Sto) (ρ : Rho) (f : α → Sto → SR) : (Res.ok a S).st ρ f = f a S := rfl
@[simp] theorem Res.st_exc {α : Type} (e : Ex) (S : Sto) (ρ : Rho) (f : α → Sto → SR) : (Res.exc e S).st ρ f = .xc e ρ S := rfl
@[simp] theorem Res.st_stuck {α : Type} (ρ : Rho) (f : α → Sto → SR) : (Res.stuck : Res α).st ρ f = .stuck := rfl

/-! ### how it lies in the abstract heap -/
/-- where the text's classes lie -/
structure Ga where
  cl : Cl → Addr
  has : Cl → Bool
  xc : Xc → Addr
/-- the fields that a class's objects may have -/
def okF : Cl → Fl → Bool
  | .Rooms, .many => true | .Rooms, .cells => true | .Rooms, .inside => true
  | .Thing, .row => true | .Plain, .row => true | .Plain, .last_words => true | .Pair, .row => true
  | .PlainHeap, .named => true | .PlainHeap, .made => true | .PlainHeap, .line => true
  | .Looker, .heap => true | .Looker, .part => true | .Looker, .to_go => true | .Looker, .gone => true
  | .Memory, .rooms => true | .Marking, .memory => true | .Marking, .line => true
  | .Heap, .memory => true | .Heap, .marking => true | .Heap, .fence => true | .Heap, .named => true | .Heap, .line => true | .Heap, .rows => true
  | .Heap, .phase => true | .Heap, .room => true | .Heap, .made => true | .Desk, .heap => true
  | _, _ => false
/-- a list of the text's own top -/
def KSeq (K : PySem.W.Frag) (a : Addr) (vs : List V) : Prop := ∃ (o : Obj) (its : Array Value) (n : Nat), K.lookup a = some o ∧ o.cls = .type "list" ∧ o.dict = none ∧ o.data = .seq its n ∧ its.size ≤ sizeLine ∧ Vals vs its.toList
/-- a list that stood ahead -/
def LsV (K : PySem.W.Frag) (H : Hp) (φ : List Addr) (a : Addr) (vs : List V) : Prop := (a ∉ φ ∧ ∃ o, H a = some (.frz o (.lst vs))) ∨ KSeq K a vs
theorem LsV.sql {K : PySem.W.Frag} {H : Hp} {φ : List Addr} {a : Addr} {vs : List V} (h : LsV K H φ a vs) : SqL K H a vs := h.elim (fun z => .inl (.inr z.2)) .inr
/-- an exception that was caught and is kept: its class, its dict -/
def ExK (cls : Value) (d : Option Addr) (a : Addr) : HO := .ext fun h => ∃ (oe : Obj) (vs : Array Value), h.get? a = some oe ∧ Zc cls d oe ∧ oe.data = .fields vs
mutual
inductive RV (K : PySem.W.Frag) (G : Ga) (H : Hp) (φ : List Addr) : D → V → Prop
  | non : RV K G H φ .non .non
  | bl {b : Bool} : RV K G H φ (.bl b) (.bl b)
  | int {i : Int} : RV K G H φ (.int i) (.int i)
  | str {x : Str} : RV K G H φ (.str x) (.str x)
  | tup {xs : List D} {vs : List V} {a : Addr} : SqT K H a vs → RVs K G H φ xs vs → RV K G H φ (.tup xs) (.ref a)
  | vl {xs : List D} {vs : List V} {a : Addr} : a ∉ φ → H a = some (.lst vs) → RVs K G H φ xs vs → pureAll xs = true → RV K G H φ (.vl xs) (.ref a)
  | cl {xs : List D} {vs : List V} {a : Addr} : LsV K H φ a vs → RVs K G H φ xs vs → pureAll xs = true → RV K G H φ (.cl xs) (.ref a)
  | vd {ks : List Key} {xs : List D} {kvs : List (Key × V)} {a : Addr} : a ∉ φ → H a = some (.dK kvs) → kvs.map (·.1) = ks → RVs K G H φ xs (kvs.map (·.2)) → pureAll xs = true → RV K G H φ (.vd ks xs) (.ref a)
  | vo {c : Cl} {fs : List Fl} {xs : List D} {vs : List (Str × V)} {a dx : Addr} : a ∉ φ → H a = some (.ins (G.cl c) dx vs) → G.has c = true → vs.map (·.1) = fs.map Fl.nm → RVs K G H φ xs (vs.map (·.2)) → fs.all (okF c) = true → pureAll xs = true →
      RV K G H φ (.vo c fs xs) (.ref a)
  | xv0 {c : Xc} {a : Addr} : a ∉ φ → H a = some (ExK (.ref (G.xc c)) none a) → RV K G H φ (.xv c []) (.ref a)
  | xv1 {c : Xc} {a dx : Addr} {x : D} {v : V} : a ∉ φ → H a = some (ExK (.ref (G.xc c)) (some dx) a) → dx ∉ φ → H dx = some (.xd [(("row" : Str), v)]) → RV K G H φ x v → x.pureB = true → RV K G H φ (.xv c [x]) (.ref a)
  | loc {l : Nat} {a : Addr} : φ[l]? = some a → RV K G H φ (.loc l) (.ref a)
inductive RVs (K : PySem.W.Frag) (G : Ga) (H : Hp) (φ : List Addr) : List D → List V → Prop
  | nil : RVs K G H φ [] []
  | cons {d : D} {v : V} {ds : List D} {vs : List V} : RV K G H φ d v → RVs K G H φ ds vs → RVs K G H φ (d :: ds) (v :: vs)
end
/-- tuples and known things stay -/
structure TK (H H' : Hp) : Prop where
  tup : ∀ a xs, H a = some (.tup xs) → H' a = some (.tup xs)
  frz : ∀ a o u, H a = some (.frz o u) → H' a = some (.frz o u)
theorem TK.refl {H : Hp} : TK H H := ⟨fun _ _ h => h, fun _ _ _ h => h⟩
theorem TK.trans {H H1 H2 : Hp} (a : TK H H1) (b : TK H1 H2) : TK H H2 := ⟨fun c xs h => b.tup c xs (a.tup c xs h), fun c o u h => b.frz c o u (a.frz c o u h)⟩
theorem TK.new {H : Hp} {p : Addr} {o : HO} (h : H p = none) : TK H (upd H p o) :=
  ⟨fun a xs q => by rw [upd_ne (ne_of_none q h)]; exact q, fun a ob u q => by rw [upd_ne (ne_of_none q h)]; exact q⟩
theorem TK.at {H : Hp} {p : Addr} {o u : HO} (h : H p = some u) (h1 : ∀ xs, u ≠ .tup xs) (h2 : ∀ ob w, u ≠ .frz ob w) : TK H (upd H p o) :=
  ⟨fun a xs q => by rw [upd_ne (ne_of q h fun z => h1 _ z.symm)]; exact q, fun a ob w q => by rw [upd_ne (ne_of q h fun z => h2 _ _ z.symm)]; exact q⟩
theorem TK.sqt {K : PySem.W.Frag} {H H' : Hp} {a : Addr} {vs : List V} (t : TK H H') (h : SqT K H a vs) : SqT K H' a vs := by
  rcases h with (h | ⟨o, h⟩) | h
  · exact .inl (.inl (t.tup _ _ h))
  · exact .inl (.inr ⟨o, t.frz _ _ _ h⟩)
  · exact .inr h
theorem pre_get {φ φ' : List Addr} (h : φ <+: φ') {l : Nat} {a : Addr} (e : φ[l]? = some a) : φ'[l]? = some a := by
  obtain ⟨t, rfl⟩ := h
  have hl := (List.getElem?_eq_some_iff.mp e).1
  rw [List.getElem?_append_left hl]
  exact e
/-- the heap goes on: only what is tracked changes -/
structure Ext (φ : List Addr) (H : Hp) (φ' : List Addr) (H' : Hp) : Prop where
  pre : φ <+: φ'
  tk : TK H H'
  out : ∀ a u, a ∉ φ → H a = some u → H' a = some u
  frs : ∀ a, a ∈ φ' → a ∉ φ → H a = none
theorem Ext.notin {φ φ' : List Addr} {H H' : Hp} (x : Ext φ H φ' H') {a : Addr} {u : HO} (n : a ∉ φ) (h : H a = some u) : a ∉ φ' := fun z => by
  have := x.frs a z n
  rw [h] at this
  cases this
theorem Ext.refl {φ : List Addr} {H : Hp} : Ext φ H φ H := ⟨List.prefix_rfl, .refl, fun _ _ _ h => h, fun _ h n => absurd h n⟩
theorem Ext.trans {φ φ1 φ2 : List Addr} {H H1 H2 : Hp} (a : Ext φ H φ1 H1) (b : Ext φ1 H1 φ2 H2) : Ext φ H φ2 H2 := by
  refine ⟨a.pre.trans b.pre, a.tk.trans b.tk, fun c u n h => b.out c u (a.notin n h) (a.out c u n h), fun c z n => ?_⟩
  by_cases h1 : c ∈ φ1
  · exact a.frs c h1 n
  · have e := b.frs c z h1
    cases q : H c with
    | none => rfl
    | some u => rw [a.out c u n q] at e; cases e
theorem Ext.lsv {K : PySem.W.Frag} {φ φ' : List Addr} {H H' : Hp} (x : Ext φ H φ' H') {a : Addr} {vs : List V} (h : LsV K H φ a vs) : LsV K H' φ' a vs := by
  rcases h with ⟨n, o, h⟩ | h
  · exact .inl ⟨x.notin n h, o, x.out _ _ n h⟩
  · exact .inr h
section
variable {K : PySem.W.Frag} {G : Ga} {H H' : Hp} {φ φ' : List Addr}
mutual
theorem RV.ext {d : D} {v : V} (x : Ext φ H φ' H') (h : RV K G H φ d v) : RV K G H' φ' d v := by
  cases h with
  | non => exact .non
  | bl => exact .bl
  | int => exact .int
  | str => exact .str
  | tup q r => exact .tup (x.tk.sqt q) (RVs.ext x r)
  | vl n q r p => exact .vl (x.notin n q) (x.out _ _ n q) (RVs.ext x r) p
  | cl q r p => exact .cl (x.lsv q) (RVs.ext x r) p
  | vd n q e r p => exact .vd (x.notin n q) (x.out _ _ n q) e (RVs.ext x r) p
  | vo n q hh e r o p => exact .vo (x.notin n q) (x.out _ _ n q) hh e (RVs.ext x r) o p
  | xv0 n q => exact .xv0 (x.notin n q) (x.out _ _ n q)
  | xv1 n q m e r p => exact .xv1 (x.notin n q) (x.out _ _ n q) (x.notin m e) (x.out _ _ m e) (RV.ext x r) p
  | loc e => exact .loc (pre_get x.pre e)
theorem RVs.ext {ds : List D} {vs : List V} (x : Ext φ H φ' H') (h : RVs K G H φ ds vs) : RVs K G H' φ' ds vs := by
  cases h with
  | nil => exact .nil
  | cons a b => exact .cons (RV.ext x a) (RVs.ext x b)
end
mutual
/-- fewer are tracked -/
theorem RV.sub {φ2 : List Addr} {d : D} {v : V} (n : Nat) (hs : ∀ b, b ∈ φ2 → b ∈ φ) (hg : ∀ (l : Nat) a, l < n → φ[l]? = some a → φ2[l]? = some a) (l : d.low n = true) (h : RV K G H φ d v) : RV K G H φ2 d v := by
  cases h with
  | non => exact .non
  | bl => exact .bl
  | int => exact .int
  | str => exact .str
  | tup q r => exact .tup q (RVs.sub n hs hg (by simpa [D.low] using l) r)
  | vl m q r p => exact .vl (fun w => m (hs _ w)) q (RVs.subP hs p r) p
  | cl q r p => exact .cl (q.imp (fun z => ⟨fun w => z.1 (hs _ w), z.2⟩) id) (RVs.subP hs p r) p
  | vd m q e r p => exact .vd (fun w => m (hs _ w)) q e (RVs.subP hs p r) p
  | vo m q hh e r o p => exact .vo (fun w => m (hs _ w)) q hh e (RVs.subP hs p r) o p
  | xv0 m q => exact .xv0 (fun w => m (hs _ w)) q
  | xv1 m q j e r p => exact .xv1 (fun w => m (hs _ w)) q (fun w => j (hs _ w)) e (RV.subP hs p r) p
  | loc e => exact .loc (hg _ _ (by simpa [D.low] using l) e)
theorem RVs.sub {φ2 : List Addr} {ds : List D} {vs : List V} (n : Nat) (hs : ∀ b, b ∈ φ2 → b ∈ φ) (hg : ∀ (l : Nat) a, l < n → φ[l]? = some a → φ2[l]? = some a) (l : lowAll n ds = true) (h : RVs K G H φ ds vs) : RVs K G H φ2 ds vs := by
  cases h with
  | nil => exact .nil
  | cons a b =>
    simp only [lowAll, Bool.and_eq_true] at l
    exact .cons (RV.sub n hs hg l.1 a) (RVs.sub n hs hg l.2 b)
theorem RV.subP {φ2 : List Addr} {d : D} {v : V} (hs : ∀ b, b ∈ φ2 → b ∈ φ) (l : d.pureB = true) (h : RV K G H φ d v) : RV K G H φ2 d v := by
  cases h with
  | non => exact .non
  | bl => exact .bl
  | int => exact .int
  | str => exact .str
  | tup q r => exact .tup q (RVs.subP hs (by simpa [D.pureB] using l) r)
  | vl m q r p => exact .vl (fun w => m (hs _ w)) q (RVs.subP hs p r) p
  | cl q r p => exact .cl (q.imp (fun z => ⟨fun w => z.1 (hs _ w), z.2⟩) id) (RVs.subP hs p r) p
  | vd m q e r p => exact .vd (fun w => m (hs _ w)) q e (RVs.subP hs p r) p
  | vo m q hh e r o p => exact .vo (fun w => m (hs _ w)) q hh e (RVs.subP hs p r) o p
  | xv0 m q => exact .xv0 (fun w => m (hs _ w)) q
  | xv1 m q j e r p => exact .xv1 (fun w => m (hs _ w)) q (fun w => j (hs _ w)) e (RV.subP hs p r) p
  | loc e => simp [D.pureB] at l
theorem RVs.subP {φ2 : List Addr} {ds : List D} {vs : List V} (hs : ∀ b, b ∈ φ2 → b ∈ φ) (l : pureAll ds = true) (h : RVs K G H φ ds vs) : RVs K G H φ2 ds vs := by
  cases h with
  | nil => exact .nil
  | cons a b =>
    simp only [pureAll, Bool.and_eq_true] at l
    exact .cons (RV.subP hs l.1 a) (RVs.subP hs l.2 b)
end
theorem take_sub {n : Nat} : ∀ b, b ∈ φ.take n → b ∈ φ := fun _ h => List.mem_of_mem_take h
theorem take_get {n : Nat} : ∀ (l : Nat) a, l < n → φ[l]? = some a → (φ.take n)[l]? = some a := fun l a hl e => by rw [List.getElem?_take, if_pos hl]; exact e
theorem RV.less {d : D} {v : V} (n : Nat) (l : d.low n = true) (h : RV K G H φ d v) : RV K G H (φ.take n) d v := h.sub n take_sub take_get l
theorem RVs.less {ds : List D} {vs : List V} (n : Nat) (l : lowAll n ds = true) (h : RVs K G H φ ds vs) : RVs K G H (φ.take n) ds vs := h.sub n take_sub take_get l
theorem RV.pure {d : D} {v : V} (n : Nat) (l : d.pureB = true) (h : RV K G H φ d v) : RV K G H (φ.take n) d v := h.subP take_sub l
theorem RVs.pure {ds : List D} {vs : List V} (n : Nat) (l : pureAll ds = true) (h : RVs K G H φ ds vs) : RVs K G H (φ.take n) ds vs := h.subP take_sub l
theorem RVs.length : ∀ {ds : List D} {vs : List V}, RVs K G H φ ds vs → ds.length = vs.length
  | _, _, .nil => rfl
  | _, _, .cons _ b => by rw [List.length_cons, List.length_cons, RVs.length b]
theorem RVs.get : ∀ {ds : List D} {vs : List V} {i : Nat} {d : D}, RVs K G H φ ds vs → ds[i]? = some d → ∃ v, vs[i]? = some v ∧ RV K G H φ d v
  | _, _, _, _, .nil, e => by simp at e
  | _, _, 0, _, .cons a _, e => by simp at e; subst e; exact ⟨_, rfl, a⟩
  | _, _, i + 1, d, .cons _ b, e => by
    obtain ⟨v, h1, h2⟩ := RVs.get (i := i) (d := d) b (by simpa using e)
    exact ⟨v, by simpa using h1, h2⟩
theorem RVs.set {d : D} {v : V} (r : RV K G H φ d v) : ∀ {ds : List D} {vs : List V} (i : Nat), RVs K G H φ ds vs → RVs K G H φ (ds.set i d) (vs.set i v)
  | _, _, _, .nil => .nil
  | _, _, 0, .cons _ b => .cons r b
  | _, _, i + 1, .cons a b => .cons a (RVs.set r i b)
theorem RVs.append : ∀ {ds es : List D} {vs us : List V}, RVs K G H φ ds vs → RVs K G H φ es us → RVs K G H φ (ds ++ es) (vs ++ us)
  | _, _, _, _, .nil, s => s
  | _, _, _, _, .cons a b, s => .cons a (RVs.append b s)
theorem RVs.take : ∀ {ds : List D} {vs : List V} (n : Nat), RVs K G H φ ds vs → RVs K G H φ (ds.take n) (vs.take n)
  | _, _, 0, _ => .nil
  | _, _, _ + 1, .nil => .nil
  | _, _, n + 1, .cons a b => .cons a (RVs.take n b)
theorem RVs.drop : ∀ {ds : List D} {vs : List V} (n : Nat), RVs K G H φ ds vs → RVs K G H φ (ds.drop n) (vs.drop n)
  | _, _, 0, r => r
  | _, _, _ + 1, .nil => .nil
  | _, _, n + 1, .cons _ b => RVs.drop n b
theorem RVs.ints : ∀ {ns : List Int}, RVs K G H φ (ns.map D.int) (ns.map V.int)
  | [] => .nil
  | _ :: _ => .cons .int RVs.ints
end
/-! purity -/
theorem pureAll_append : ∀ {xs ys : List D}, pureAll (xs ++ ys) = (pureAll xs && pureAll ys)
  | [], ys => by simp [pureAll]
  | x :: xs, ys => by simp only [List.cons_append, pureAll, pureAll_append, Bool.and_assoc]
theorem pureAll_mem : ∀ {xs : List D}, pureAll xs = true ↔ ∀ x ∈ xs, x.pureB = true
  | [] => by simp [pureAll]
  | x :: xs => by simp only [pureAll, Bool.and_eq_true, pureAll_mem (xs := xs), List.forall_mem_cons]
theorem pureAll_ints {ns : List Int} : pureAll (ns.map D.int) = true := pureAll_mem.mpr fun x h => by
  obtain ⟨i, _, rfl⟩ := List.mem_map.mp h
  rfl
mutual
theorem pure_low {n : Nat} : ∀ {d : D}, d.pureB = true → d.low n = true
  | .non, _ | .bl _, _ | .int _, _ | .str _, _ | .vl _, _ | .cl _, _ | .vd _ _, _ | .vo _ _ _, _ | .xv _ _, _ => rfl
  | .tup xs, h => by simp only [D.pureB] at h; simp only [D.low]; exact pureAll_low h
  | .loc _, h => by simp [D.pureB] at h
theorem pureAll_low {n : Nat} : ∀ {ds : List D}, pureAll ds = true → lowAll n ds = true
  | [], _ => rfl
  | d :: ds, h => by
    simp only [pureAll, Bool.and_eq_true] at h
    simp only [lowAll, pure_low h.1, pureAll_low h.2, Bool.and_self]
end
theorem lowAll_mem {n : Nat} : ∀ {xs : List D}, lowAll n xs = true ↔ ∀ x ∈ xs, x.low n = true
  | [] => by simp [lowAll]
  | x :: xs => by simp only [lowAll, Bool.and_eq_true, lowAll_mem (xs := xs), List.forall_mem_cons]
/-- pairs of a dict, of an instance -/
inductive RKs (K : PySem.W.Frag) (G : Ga) (H : Hp) (φ : List Addr) {κ κ' : Type} (f : κ → κ') : List (κ × D) → List (κ' × V) → Prop
  | nil : RKs K G H φ f [] []
  | cons {k : κ} {d : D} {v : V} {ds : List (κ × D)} {vs : List (κ' × V)} : RV K G H φ d v → RKs K G H φ f ds vs → RKs K G H φ f ((k, d) :: ds) ((f k, v) :: vs)
theorem RKs.ext {K : PySem.W.Frag} {G : Ga} {H H' : Hp} {φ φ' : List Addr} {κ κ' : Type} {f : κ → κ'} {ds : List (κ × D)} {vs : List (κ' × V)} (x : Ext φ H φ' H') (h : RKs K G H φ f ds vs) : RKs K G H' φ' f ds vs := by
  induction h with
  | nil => exact .nil
  | cons a _ ih => exact .cons (a.ext x) ih
theorem RKs.length {K : PySem.W.Frag} {G : Ga} {H : Hp} {φ : List Addr} {κ κ' : Type} {f : κ → κ'} {ds : List (κ × D)} {vs : List (κ' × V)} (h : RKs K G H φ f ds vs) : ds.length = vs.length := by
  induction h with
  | nil => rfl
  | cons _ _ ih => rw [List.length_cons, List.length_cons, ih]
theorem RKs.sub {K : PySem.W.Frag} {G : Ga} {H : Hp} {φ φ2 : List Addr} {κ κ' : Type} {f : κ → κ'} {ds : List (κ × D)} {vs : List (κ' × V)} (n : Nat) (hs : ∀ b, b ∈ φ2 → b ∈ φ) (hg : ∀ (l : Nat) a, l < n → φ[l]? = some a → φ2[l]? = some a) (l : lowAll n (ds.map (·.2)) = true) (h : RKs K G H φ f ds vs) : RKs K G H φ2 f ds vs := by
  induction h with
  | nil => exact .nil
  | cons a _ ih =>
    simp only [List.map_cons, lowAll, Bool.and_eq_true] at l
    exact .cons (a.sub n hs hg l.1) (ih l.2)
theorem RKs.keys {K : PySem.W.Frag} {G : Ga} {H : Hp} {φ : List Addr} {κ κ' : Type} {f : κ → κ'} {ds : List (κ × D)} {vs : List (κ' × V)} (h : RKs K G H φ f ds vs) : vs.map (·.1) = ds.map (fun x => f x.1) := by
  induction h with
  | nil => rfl
  | cons _ _ ih => simp only [List.map_cons, ih]
theorem RKs.vals {K : PySem.W.Frag} {G : Ga} {H : Hp} {φ : List Addr} {κ κ' : Type} {f : κ → κ'} {ds : List (κ × D)} {vs : List (κ' × V)} (h : RKs K G H φ f ds vs) : RVs K G H φ (ds.map (·.2)) (vs.map (·.2)) := by
  induction h with
  | nil => exact .nil
  | cons a _ ih => exact .cons a ih
/-- a value object's, a value dict's pairs -/
theorem RKs.zip {K : PySem.W.Frag} {G : Ga} {H : Hp} {φ : List Addr} {κ κ' : Type} {f : κ → κ'} : ∀ {ks : List κ} {ds : List D} {vs : List (κ' × V)}, vs.map (·.1) = ks.map f → RVs K G H φ ds (vs.map (·.2)) → RKs K G H φ f (ks.zip ds) vs
  | [], ds, [], _, r => by cases ds <;> exact .nil
  | [], _, _ :: _, e, _ => by simp at e
  | _ :: _, _, [], e, _ => by simp at e
  | k :: ks, [], (q, v) :: vs, _, r => by cases r
  | k :: ks, d :: ds, (q, v) :: vs, e, r => by
    simp only [List.map_cons, List.cons.injEq] at e
    obtain ⟨rfl, e⟩ := e
    cases r with
    | cons a b => exact .cons a (RKs.zip e b)
inductive RO (K : PySem.W.Frag) (G : Ga) (H : Hp) (φ : List Addr) : O → Addr → Prop
  | lst {xs : List D} {vs : List V} {a : Addr} : H a = some (.lst vs) → RVs K G H φ xs vs → RO K G H φ (.lst xs) a
  | dct {kvs : List (Key × D)} {vs : List (Key × V)} {a : Addr} : H a = some (.dK vs) → RKs K G H φ id kvs vs → RO K G H φ (.dct false kvs) a
  | dctF {kvs : List (Key × D)} {vs : List (Key × V)} {a : Addr} {o : Obj} : H a = some (.frz o (.dK vs)) → RKs K G H φ id kvs vs → RO K G H φ (.dct true kvs) a
  | ins {c : Cl} {fs : List (Fl × D)} {vs : List (Str × V)} {a dx : Addr} : H a = some (.ins (G.cl c) dx vs) → RKs K G H φ Fl.nm fs vs → G.has c = true → fs.all (fun f => okF c f.1) = true → RO K G H φ (.ins c fs) a
structure Emb (K : PySem.W.Frag) (G : Ga) (φ : List Addr) (S : Sto) (H : Hp) : Prop where
  len : φ.length = S.length
  nd : ∀ (l l' : Nat) a, φ[l]? = some a → φ[l']? = some a → l = l'
  ob : ∀ (l : Nat) o a, S[l]? = some o → φ[l]? = some a → RO K G H φ o a
/-- slots -/
structure RS (K : PySem.W.Frag) (G : Ga) (φ : List Addr) (ρ : Rho) (σ : St) (H : Hp) : Prop where
  len : ρ.length = σ.length
  at_ : ∀ (i : Nat) d, ρ[i]? = some (some d) → ∃ v, σ[i]? = some (some v) ∧ RV K G H φ d v
theorem RS.ext {K : PySem.W.Frag} {G : Ga} {φ φ' : List Addr} {ρ : Rho} {σ : St} {H H' : Hp} (x : Ext φ H φ' H') (h : RS K G φ ρ σ H) : RS K G φ' ρ σ H' :=
  ⟨h.len, fun i d e => let ⟨v, a, b⟩ := h.at_ i d e; ⟨v, a, b.ext x⟩⟩
theorem RS.set {K : PySem.W.Frag} {G : Ga} {φ : List Addr} {ρ : Rho} {σ : St} {H : Hp} {d : D} {v : V} (h : RS K G φ ρ σ H) (i : Nat) (r : RV K G H φ d v) : RS K G φ (ρ.set i (some d)) (σ.set i (some v)) H := by
  refine ⟨by simp [h.len], fun j e q => ?_⟩
  by_cases hj : i = j
  · subst hj
    have hl : i < ρ.length := by
      have := (List.getElem?_eq_some_iff.mp q).1
      simpa using this
    rw [List.getElem?_set_self hl] at q
    cases q
    exact ⟨v, List.getElem?_set_self (by rw [← h.len]; exact hl), r⟩
  · rw [List.getElem?_set_ne hj] at q
    rw [List.getElem?_set_ne hj]
    exact h.at_ j e q
/-! ### the wishes -/
def XW (K : PySem.W.Frag) (G : Ga) (W : WX) (e : Ex) (φ : List Addr) (σ : St) (H : Hp) : Prop :=
  match e.v with
  | none => W (.ref (G.xc e.c)) none σ H
  | some x => ∀ d v, H d = some (.xd [(("row" : Str), v)]) → RV K G H φ x v → W (.ref (G.xc e.c)) (some d) σ H
def outR {α β : Type} (K : PySem.W.Frag) (G : Ga) (W : WX) (R : Hp → List Addr → α → β → Prop) (r : Res α) (φ : List Addr) (σ : St) (H : Hp) (Q : β → Hp → Prop) : Prop :=
  match r with
  | .ok a S' => ∀ φ' b H', Ext φ H φ' H' → Emb K G φ' S' H' → R H' φ' a b → Q b H'
  | .exc e S' => ∀ φ' H', Ext φ H φ' H' → Emb K G φ' S' H' → XW K G W e φ' σ H'
  | .stuck => False
def outS (K : PySem.W.Frag) (G : Ga) (W : WX) (r : SR) (φ : List Addr) (H : Hp) (D : Ends) : Prop :=
  match r with
  | .nx ρ' S' => ∀ φ' σ' H', Ext φ H φ' H' → Emb K G φ' S' H' → RS K G φ' ρ' σ' H' → D.nx σ' H'
  | .rt d S' => ∀ φ' v H', Ext φ H φ' H' → Emb K G φ' S' H' → RV K G H' φ' d v → D.rt v H'
  | .bk ρ' S' => ∀ φ' σ' H', Ext φ H φ' H' → Emb K G φ' S' H' → RS K G φ' ρ' σ' H' → D.bk σ' H'
  | .ct ρ' S' => ∀ φ' σ' H', Ext φ H φ' H' → Emb K G φ' S' H' → RS K G φ' ρ' σ' H' → D.ct σ' H'
  | .xc e ρ' S' => ∀ φ' σ' H', Ext φ H φ' H' → Emb K G φ' S' H' → RS K G φ' ρ' σ' H' → XW K G W e φ' σ' H'
  | .stuck => False
def rE (K : PySem.W.Frag) (G : Ga) : Hp → List Addr → D → V → Prop := fun H φ d v => RV K G H φ d v
def rT : Hp → List Addr → Bool → Bool → Prop := fun _ _ a b => a = b
def rA (K : PySem.W.Frag) (G : Ga) : Hp → List Addr → List D → List V → Prop := fun H φ d v => RVs K G H φ d v
def wp {α β : Type} (K : PySem.W.Frag) (G : Ga) (W : WX) (R : Hp → List Addr → α → β → Prop) (m : Rho → Sto → Res α) : St → Hp → (β → Hp → Prop) → Prop :=
  fun σ H Q => ∃ φ ρ S, Emb K G φ S H ∧ RS K G φ ρ σ H ∧ outR K G W R (m ρ S) φ σ H Q
abbrev wpE (K : PySem.W.Frag) (G : Ga) (W : WX) (m : MEx) : TE := wp K G W (rE K G) m
abbrev wpT (K : PySem.W.Frag) (G : Ga) (W : WX) (m : MTs) : TT := wp K G W rT m
abbrev wpA (K : PySem.W.Frag) (G : Ga) (W : WX) (m : MAr) : TA := wp K G W (rA K G) m
def wpS (K : PySem.W.Frag) (G : Ga) (W : WX) (m : MSt) : TS := fun D σ H => ∃ φ ρ S, Emb K G φ S H ∧ RS K G φ ρ σ H ∧ outS K G W (m ρ S) φ H D
section
variable {K : PySem.W.Frag} {G : Ga} {W : WX} {α β γ δ : Type} {R : Hp → List Addr → α → β → Prop} {R' : Hp → List Addr → γ → δ → Prop}
theorem outR.from {r : Res α} {φ φ1 : List Addr} {σ : St} {H H1 : Hp} {Q : β → Hp → Prop} (x : Ext φ H φ1 H1) (h : outR K G W R r φ σ H Q) : outR K G W R r φ1 σ H1 Q := by
  cases r with
  | ok a S => exact fun φ' b H' x' => h φ' b H' (x.trans x')
  | exc e S => exact fun φ' H' x' => h φ' H' (x.trans x')
  | stuck => exact h
theorem outR.bind {r : Res α} {f : α → Sto → Res γ} {φ : List Addr} {σ : St} {H : Hp} {Q : δ → Hp → Prop} {Q1 : β → Hp → Prop} (h : outR K G W R' (r.bind f) φ σ H Q)
    (k : ∀ a S1 φ1 b H1, Ext φ H φ1 H1 → Emb K G φ1 S1 H1 → R H1 φ1 a b → outR K G W R' (f a S1) φ1 σ H1 Q → Q1 b H1) : outR K G W R r φ σ H Q1 := by
  cases r with
  | ok a S => exact fun φ1 b H1 x em rv => k a S φ1 b H1 x em rv (outR.from x h)
  | exc e S => exact h
  | stuck => exact h
theorem outS.from {r : SR} {φ φ1 : List Addr} {H H1 : Hp} {D : Ends} (x : Ext φ H φ1 H1) (h : outS K G W r φ H D) : outS K G W r φ1 H1 D := by
  cases r with
  | nx ρ S => exact fun φ' b H' x' => h φ' b H' (x.trans x')
  | rt ρ S => exact fun φ' b H' x' => h φ' b H' (x.trans x')
  | bk ρ S => exact fun φ' b H' x' => h φ' b H' (x.trans x')
  | ct ρ S => exact fun φ' b H' x' => h φ' b H' (x.trans x')
  | xc e ρ S => exact fun φ' b H' x' => h φ' b H' (x.trans x')
  | stuck => exact h
theorem outR.st {r : Res α} {f : α → Sto → SR} {φ : List Addr} {ρ : Rho} {σ : St} {H : Hp} {D : Ends} {Q1 : β → Hp → Prop} (rs : RS K G φ ρ σ H) (h : outS K G W (r.st ρ f) φ H D)
    (k : ∀ a S1 φ1 b H1, Ext φ H φ1 H1 → Emb K G φ1 S1 H1 → R H1 φ1 a b → outS K G W (f a S1) φ1 H1 D → Q1 b H1) : outR K G W R r φ σ H Q1 := by
  cases r with
  | ok a S => exact fun φ1 b H1 x em rv => k a S φ1 b H1 x em rv (outS.from x h)
  | exc e S => exact fun φ' H' x em => h φ' σ H' x em (rs.ext x)
  | stuck => exact h
theorem outR.ok {a : α} {S : Sto} {φ : List Addr} {σ : St} {H : Hp} {Q : β → Hp → Prop} {b : β} (h : outR K G W R (.ok a S) φ σ H Q) (em : Emb K G φ S H) (r : R H φ a b) : Q b H := h φ b H .refl em r
end

/-! ### the store's turns -/
theorem RO.keep {K : PySem.W.Frag} {G : Ga} {H H' : Hp} {φ φ' : List Addr} {o : O} {a : Addr} (x : Ext φ H φ' H') (k : ∀ u, H a = some u → H' a = some u) (h : RO K G H φ o a) : RO K G H' φ' o a := by
  cases h with
  | lst e r => exact .lst (k _ e) (r.ext x)
  | dct e r => exact .dct (k _ e) (r.ext x)
  | dctF e r => exact .dctF (k _ e) (r.ext x)
  | ins e r h1 h2 => exact .ins (k _ e) (r.ext x) h1 h2
theorem RO.there {K : PySem.W.Frag} {G : Ga} {H : Hp} {φ : List Addr} {o : O} {a : Addr} (h : RO K G H φ o a) : ∃ u, H a = some u := by
  cases h with
  | lst e r => exact ⟨_, e⟩
  | dct e r => exact ⟨_, e⟩
  | dctF e r => exact ⟨_, e⟩
  | ins e r h1 h2 => exact ⟨_, e⟩
theorem Emb.addr {K : PySem.W.Frag} {G : Ga} {φ : List Addr} {S : Sto} {H : Hp} (em : Emb K G φ S H) {l : Nat} {o : O} (h : S[l]? = some o) : ∃ a, φ[l]? = some a ∧ RO K G H φ o a := by
  have hl : l < φ.length := by rw [em.len]; exact (List.getElem?_eq_some_iff.mp h).1
  exact ⟨φ[l], List.getElem?_eq_getElem hl, em.ob l o _ h (List.getElem?_eq_getElem hl)⟩
theorem Emb.at_loc {K : PySem.W.Frag} {G : Ga} {φ : List Addr} {S : Sto} {H : Hp} (em : Emb K G φ S H) {l : Nat} {o : O} {v : V} (h : S[l]? = some o) (r : RV K G H φ (.loc l) v) : ∃ a, v = .ref a ∧ φ[l]? = some a ∧ RO K G H φ o a := by
  cases r with
  | loc e => exact ⟨_, rfl, e, em.ob l o _ h e⟩
theorem Emb.there {K : PySem.W.Frag} {G : Ga} {φ : List Addr} {S : Sto} {H : Hp} (em : Emb K G φ S H) {a : Addr} (h : a ∈ φ) : ∃ u, H a = some u := by
  obtain ⟨l, hl, e⟩ := List.mem_iff_getElem.mp h
  have hl2 : l < S.length := by rw [← em.len]; exact hl
  exact (em.ob l S[l] a (List.getElem?_eq_getElem hl2) (by rw [List.getElem?_eq_getElem hl, e])).there
/-- the heap changes elsewhere -/
theorem Emb.keep {K : PySem.W.Frag} {G : Ga} {φ : List Addr} {S : Sto} {H H' : Hp} (em : Emb K G φ S H) (x : Ext φ H φ H') (k : ∀ a u, H a = some u → H' a = some u) : Emb K G φ S H' :=
  ⟨em.len, em.nd, fun l o a h e => (em.ob l o a h e).keep x (k a)⟩
theorem Ext.other {φ : List Addr} {H : Hp} {p : Addr} {ho : HO} (hp : H p = none) : Ext φ H φ (upd H p ho) := ⟨List.prefix_rfl, .new hp, fun a u _ e => by rw [upd_ne (ne_of_none e hp)]; exact e, fun _ h n => absurd h n⟩
/-- a tuple is laid -/
theorem Emb.other {K : PySem.W.Frag} {G : Ga} {φ : List Addr} {S : Sto} {H : Hp} {p : Addr} {ho : HO} (em : Emb K G φ S H) (hp : H p = none) : Emb K G φ S (upd H p ho) :=
  em.keep (.other hp) fun a u e => by rw [upd_ne (ne_of_none e hp)]; exact e
theorem Ext.new {φ : List Addr} {H : Hp} {p : Addr} {ho : HO} (hp : H p = none) : Ext φ H (φ ++ [p]) (upd H p ho) :=
  ⟨List.prefix_append _ _, .new hp, fun a u _ e => by rw [upd_ne (ne_of_none e hp)]; exact e, fun a h n => by
    rcases List.mem_append.mp h with z | z
    · exact absurd z n
    · rw [List.mem_singleton.mp z]; exact hp⟩
/-- an object is laid -/
theorem Emb.new {K : PySem.W.Frag} {G : Ga} {φ : List Addr} {S : Sto} {H : Hp} {p : Addr} {o : O} {ho : HO} (em : Emb K G φ S H) (hp : H p = none) (r : RO K G (upd H p ho) (φ ++ [p]) o p) : Emb K G (φ ++ [p]) (S ++ [o]) (upd H p ho) := by
  have hlen := em.len
  have old : ∀ {l a}, (φ ++ [p])[l]? = some a → l < φ.length → φ[l]? = some a := fun {l a} e h => by rw [List.getElem?_append_left h] at e; exact e
  have last : ∀ {l a}, (φ ++ [p])[l]? = some a → ¬ l < φ.length → l = φ.length ∧ a = p := fun {l a} e h => by
    have h1 : l < (φ ++ [p]).length := (List.getElem?_eq_some_iff.mp e).1
    simp at h1
    have h2 : l = φ.length := by omega
    subst h2
    simp at e
    exact ⟨rfl, e.symm⟩
  have sold : ∀ {l}, l < φ.length → (S ++ [o])[l]? = S[l]? := fun {l} h => by rw [List.getElem?_append_left (by omega)]
  have clash : ∀ {l}, φ[l]? = some p → False := fun {l} e => by
    obtain ⟨u, z⟩ := em.there (List.mem_of_getElem? e)
    rw [hp] at z; cases z
  refine ⟨by simp [hlen], fun l l' a e e' => ?_, fun l o' a h e => ?_⟩
  · by_cases h1 : l < φ.length
    · by_cases h2 : l' < φ.length
      · exact em.nd l l' a (old e h1) (old e' h2)
      · obtain ⟨_, rfl⟩ := last e' h2
        exact (clash (old e h1)).elim
    · obtain ⟨h3, rfl⟩ := last e h1
      by_cases h2 : l' < φ.length
      · exact (clash (old e' h2)).elim
      · exact h3.trans (last e' h2).1.symm
  · by_cases h1 : l < φ.length
    · rw [sold h1] at h
      exact (em.ob l o' a h (old e h1)).keep (.new hp) fun u z => by rw [upd_ne (ne_of_none z hp)]; exact z
    · obtain ⟨h3, rfl⟩ := last e h1
      subst h3
      rw [hlen] at h
      simp at h
      subst h
      exact r
theorem Ext.at {φ : List Addr} {H : Hp} {l : Nat} {a : Addr} {u ho : HO} (ha : φ[l]? = some a) (hu : H a = some u) (h1 : ∀ xs, u ≠ .tup xs) (h2 : ∀ ob w, u ≠ .frz ob w) : Ext φ H φ (upd H a ho) :=
  ⟨List.prefix_rfl, TK.at hu h1 h2, fun b w n e => by rw [upd_ne (fun z => n (by rw [z]; exact List.mem_of_getElem? ha))]; exact e, fun _ h n => absurd h n⟩
/-- an object is written -/
theorem Emb.set {K : PySem.W.Frag} {G : Ga} {φ : List Addr} {S : Sto} {H : Hp} {l : Nat} {a : Addr} {o0 o : O} {u ho : HO} (em : Emb K G φ S H) (h0 : S[l]? = some o0) (ha : φ[l]? = some a) (hu : H a = some u) (h1 : ∀ xs, u ≠ .tup xs) (h2 : ∀ ob w, u ≠ .frz ob w)
    (r : RO K G (upd H a ho) φ o a) : Emb K G φ (S.set l o) (upd H a ho) := by
  have hl : l < S.length := (List.getElem?_eq_some_iff.mp h0).1
  have xa : Ext φ H φ (upd H a ho) := .at ha hu h1 h2
  refine ⟨by simp [em.len], em.nd, fun i o' b h e => ?_⟩
  by_cases hi : l = i
  · subst hi
    rw [List.getElem?_set_self hl] at h
    cases h
    rw [ha] at e
    cases e
    exact r
  · rw [List.getElem?_set_ne hi] at h
    refine (em.ob i o' b h e).keep xa fun w z => ?_
    rw [upd_ne (fun q => hi (em.nd l i a ha (by rw [← q]; exact e)))]
    exact z
theorem RO.lstM {K : PySem.W.Frag} {G : Ga} {H : Hp} {φ : List Addr} {xs : List D} {a : Addr} (h : RO K G H φ (O.lst xs) a) : ∃ vs, H a = some (HO.lst vs) ∧ RVs K G H φ xs vs := by
  cases h with
  | lst e r => exact ⟨_, e, r⟩
/-- a list as it may be read -/
theorem RO.sql {K : PySem.W.Frag} {G : Ga} {H : Hp} {φ : List Addr} {xs : List D} {a : Addr} (h : RO K G H φ (.lst xs) a) : ∃ vs, SqL K H a vs ∧ RVs K G H φ xs vs := by
  cases h with
  | lst e r => exact ⟨_, .inl (.inl e), r⟩
/-! ### what is made within is left out, or becomes a value -/
def O.low (n : Nat) : O → Bool
  | .lst xs => lowAll n xs
  | .dct _ kvs => lowAll n (kvs.map (·.2))
  | .ins _ fs => lowAll n (fs.map (·.2))
theorem RO.sub {K : PySem.W.Frag} {G : Ga} {H : Hp} {φ φ2 : List Addr} {o : O} {a : Addr} (n : Nat) (hs : ∀ b, b ∈ φ2 → b ∈ φ) (hg : ∀ (l : Nat) a, l < n → φ[l]? = some a → φ2[l]? = some a) (l : o.low n = true) (h : RO K G H φ o a) : RO K G H φ2 o a := by
  cases h with
  | lst e r => exact .lst e (r.sub n hs hg l)
  | dct e r => exact .dct e (r.sub n hs hg l)
  | dctF e r => exact .dctF e (r.sub n hs hg l)
  | ins e r h1 h2 => exact .ins e (r.sub n hs hg l) h1 h2
/-- the first n of S' know nothing of the others -/
def Cld (S S' : Sto) : Prop := S.length ≤ S'.length ∧ ∀ i, i < S.length → S'[i]? = S[i]? ∨ ∃ o, S'[i]? = some o ∧ o.low S.length = true
mutual
theorem RV.lowB {K : PySem.W.Frag} {G : Ga} {H : Hp} {φ : List Addr} {d : D} {v : V} (h : RV K G H φ d v) : d.low φ.length = true := by
  cases h with
  | tup q r => simp only [D.low]; exact RVs.lowB r
  | loc e => simp only [D.low]; exact decide_eq_true (List.getElem?_eq_some_iff.mp e).1
  | _ => rfl
theorem RVs.lowB {K : PySem.W.Frag} {G : Ga} {H : Hp} {φ : List Addr} {ds : List D} {vs : List V} (h : RVs K G H φ ds vs) : lowAll φ.length ds = true := by
  cases h with
  | nil => rfl
  | cons a b => simp only [lowAll, RV.lowB a, RVs.lowB b, Bool.and_self]
end
theorem RO.lowB {K : PySem.W.Frag} {G : Ga} {H : Hp} {φ : List Addr} {o : O} {a : Addr} (h : RO K G H φ o a) : o.low φ.length = true := by
  cases h with
  | lst e r => exact r.lowB
  | dct e r => exact r.vals.lowB
  | dctF e r => exact r.vals.lowB
  | ins e r h1 h2 => exact r.vals.lowB
theorem Cld.low {K : PySem.W.Frag} {G : Ga} {φ : List Addr} {S S' : Sto} {H : Hp} (em : Emb K G φ S H) (c : Cld S S') {l : Nat} {o : O} (hl : l < S.length) (h : S'[l]? = some o) : o.low S.length = true := by
  rcases c.2 l hl with z | ⟨o', z, w⟩
  · rw [z] at h
    have hl2 : l < φ.length := by rw [em.len]; exact hl
    have := (em.ob l o _ h (List.getElem?_eq_getElem hl2)).lowB
    rw [em.len] at this
    exact this
  · rw [z] at h; cases h; exact w
theorem Emb.cut {K : PySem.W.Frag} {G : Ga} {φ φ' : List Addr} {S S' : Sto} {H H' : Hp} (em : Emb K G φ S H) (x : Ext φ H φ' H') (em' : Emb K G φ' S' H') (c : Cld S S') : Emb K G φ (S'.take S.length) H' ∧ φ'.take S.length = φ ∧ Ext φ H φ H' := by
  have hp : φ'.take S.length = φ := by
    obtain ⟨t, rfl⟩ := x.pre
    rw [← em.len]; simp
  refine ⟨⟨?_, em.nd, fun l o a h e => ?_⟩, hp, ⟨List.prefix_rfl, x.tk, x.out, fun _ h n => absurd h n⟩⟩
  · rw [List.length_take, em.len, Nat.min_eq_left c.1]
  · have hl : l < S.length := by rw [← em.len]; exact (List.getElem?_eq_some_iff.mp e).1
    rw [List.getElem?_take, if_pos hl] at h
    have q := em'.ob l o a h (pre_get x.pre e)
    have := q.sub S.length take_sub take_get (c.low em hl h)
    rw [hp] at this
    exact this
/-- cut, and one of the others kept -/
theorem Emb.cut1 {K : PySem.W.Frag} {G : Ga} {φ φ' : List Addr} {S S' : Sto} {H H' : Hp} (em : Emb K G φ S H) (x : Ext φ H φ' H') (em' : Emb K G φ' S' H') (c : Cld S S') {l : Nat} {a : Addr} {o : O} (hl : S.length ≤ l) (ha : φ'[l]? = some a) (ro : RO K G H' φ' o a) (lo : o.low 0 = true) :
    Emb K G (φ ++ [a]) (S'.take S.length ++ [o]) H' ∧ Ext φ H (φ ++ [a]) H' := by
  have len := em.len
  have hpre : ∀ (i : Nat) b, i < S.length → φ'[i]? = some b → (φ ++ [a])[i]? = some b := fun i b hi e => by
    obtain ⟨t, rfl⟩ := x.pre
    rw [List.getElem?_append_left (by omega)] at e ⊢
    exact e
  have hlt : ∀ {i b}, (φ ++ [a])[i]? = some b → i < φ.length → φ[i]? = some b := fun {i b} e h => by rw [List.getElem?_append_left h] at e; exact e
  have last : ∀ {i b}, (φ ++ [a])[i]? = some b → ¬ i < φ.length → i = φ.length ∧ b = a := fun {i b} e h => by
    have h1 : i < (φ ++ [a]).length := (List.getElem?_eq_some_iff.mp e).1
    simp at h1
    have h2 : i = φ.length := by omega
    subst h2
    simp at e
    exact ⟨rfl, e.symm⟩
  have hsub : ∀ b, b ∈ φ ++ [a] → b ∈ φ' := fun b h => by
    rcases List.mem_append.mp h with z | z
    · exact x.pre.subset z
    · rw [List.mem_singleton.mp z]; exact List.mem_of_getElem? ha
  have nin : ∀ i, φ[i]? = some a → False := fun i e => by
    have h1 := em'.nd i l a (pre_get x.pre e) ha
    have h2 := (List.getElem?_eq_some_iff.mp e).1
    omega
  have tl : (S'.take S.length).length = S.length := by rw [List.length_take, Nat.min_eq_left c.1]
  refine ⟨⟨by simp [len, c.1], fun i j b e e' => ?_, fun i o' b h e => ?_⟩, ⟨List.prefix_append _ _, x.tk, x.out, fun b h n => x.frs b (hsub b h) n⟩⟩
  · by_cases h1 : i < φ.length
    · by_cases h2 : j < φ.length
      · exact em.nd i j b (hlt e h1) (hlt e' h2)
      · obtain ⟨_, rfl⟩ := last e' h2
        exact (nin i (hlt e h1)).elim
    · obtain ⟨h3, rfl⟩ := last e h1
      by_cases h2 : j < φ.length
      · exact (nin j (hlt e' h2)).elim
      · exact h3.trans (last e' h2).1.symm
  · by_cases h1 : i < φ.length
    · rw [List.getElem?_append_left (by omega), List.getElem?_take, if_pos (by omega)] at h
      exact (em'.ob i o' b h (pre_get x.pre (hlt e h1))).sub S.length hsub (fun l b hl e => hpre l b hl e) (c.low em (by omega) h)
    · obtain ⟨h3, rfl⟩ := last e h1
      subst h3
      rw [len, ← tl] at h
      simp at h
      subst h
      exact ro.sub 0 hsub (fun l b hl _ => absurd hl (Nat.not_lt_zero l)) lo
/-- what is made from n on becomes a value -/
def optAll {α β : Type} (f : α → Option β) : List α → Option (List β)
  | [] => some []
  | x :: xs => match f x, optAll f xs with
    | some y, some ys => some (y :: ys)
    | _, _ => none
def vlO (o : Option (List D)) : Option D := match o with
  | some xs => if pureAll xs = true then some (.vl xs) else none
  | none => none
def vdO (ks : List Key) (o : Option (List D)) : Option D := match o with
  | some xs => if pureAll xs = true then some (.vd ks xs) else none
  | none => none
def voO (c : Cl) (fs : List Fl) (o : Option (List D)) : Option D := match o with
  | some xs => if pureAll xs = true then some (.vo c fs xs) else none
  | none => none
def fzD (S : Sto) (n : Nat) : Nat → D → Option D
  | 0, _ => none
  | k + 1, d => if d.pureB = true then some d else match d with
    | .tup xs => (optAll (fzD S n k) xs).map .tup
    | .loc l => if l < n then some (.loc l) else match S[l]? with
      | some (.lst xs) => vlO (optAll (fzD S n k) xs)
      | some (.dct false kvs) => vdO (kvs.map (·.1)) (optAll (fzD S n k) (kvs.map (·.2)))
      | some (.ins c fs) => voO c (fs.map (·.1)) (optAll (fzD S n k) (fs.map (·.2)))
      | _ => none
    | d => some d
theorem fz_all {K : PySem.W.Frag} {G : Ga} {H : Hp} {φ φ' : List Addr} {f : D → Option D} (ih : ∀ d v e, RV K G H φ d v → f d = some e → RV K G H φ' e v) : ∀ {ds : List D} {vs : List V} {es : List D}, RVs K G H φ ds vs → optAll f ds = some es → RVs K G H φ' es vs
  | _, _, _, .nil, e => by cases e; exact .nil
  | _, _, _, .cons a b, e => by
    unfold optAll at e
    split at e
    · rename_i y ys e1 e2
      cases e
      exact .cons (ih _ _ _ a e1) (fz_all ih b e2)
    · cases e
theorem fz_ok {K : PySem.W.Frag} {G : Ga} {φ : List Addr} {S : Sto} {H : Hp} (em : Emb K G φ S H) (n : Nat) : ∀ (k : Nat) (d : D) (v : V) (e : D), RV K G H φ d v → fzD S n k d = some e → RV K G H (φ.take n) e v := by
  intro k
  induction k with
  | zero => intro d v e r h; cases h
  | succ k ih =>
    intro d v e r h
    unfold fzD at h
    split at h
    · rename_i hp
      cases h
      exact r.pure n hp
    · split at h
      · rename_i xs hp
        obtain ⟨ys, e1, rfl⟩ := Option.map_eq_some_iff.mp h
        cases r with
        | tup q s => exact .tup q (fz_all ih s e1)
      · rename_i l hp
        split at h
        · rename_i hl
          cases h
          exact r.less n (by simp only [D.low]; exact decide_eq_true hl)
        · rename_i hl
          cases r with
          | @loc _ a ea =>
            have nin : a ∉ φ.take n := fun z => by
              obtain ⟨l', hl', e'⟩ := List.mem_iff_getElem.mp z
              have h1 : φ[l']? = some a := by
                rw [List.getElem_take] at e'
                rw [List.length_take] at hl'
                rw [List.getElem?_eq_getElem (by omega), e']
              have := em.nd l l' a ea h1
              rw [List.length_take] at hl'
              omega
            split at h
            · rename_i xs es
              unfold vlO at h
              split at h
              · rename_i ys e1
                split at h
                · rename_i hy
                  cases h
                  cases em.ob l _ a es ea with
                  | lst e2 r2 => exact .vl nin e2 (fz_all ih r2 e1) hy
                · cases h
              · cases h
            · rename_i kvs es
              unfold vdO at h
              split at h
              · rename_i ys e1
                split at h
                · rename_i hy
                  cases h
                  cases em.ob l _ a es ea with
                  | dct e2 r2 => exact .vd nin e2 (by have := r2.keys; simpa using this) (fz_all ih r2.vals e1) hy
                · cases h
              · cases h
            · rename_i c fs es
              unfold voO at h
              split at h
              · rename_i ys e1
                split at h
                · rename_i hy
                  cases h
                  cases em.ob l _ a es ea with
                  | ins e2 r2 h1 h2 => exact .vo nin e2 h1 (by rw [r2.keys, List.map_map]; rfl) (fz_all ih r2.vals e1) (by simpa [List.all_map] using h2) hy
                · cases h
              · cases h
            · cases h
      · cases h
        exact r.less n (by cases d <;> first | rfl | (rename_i h1 h2 h3; exact absurd rfl (h2 _)) | (rename_i h1 h2 h3; exact absurd rfl (h3 _)))
/-- how a def, an expression ends: what it made is left out, its value frozen (kp: a list or dict that is new is kept) -/
def keepO (S' : Sto) (n : Nat) (d : D) : Option O := match d with
  | .loc l => if l < n then none else match S'[l]? with
    | some (.lst xs) => if pureAll xs = true then some (.lst xs) else none
    | some (.dct false kvs) => if pureAll (kvs.map (·.2)) = true then some (.dct false kvs) else none
    | _ => none
  | _ => none
def exO (n : Nat) (S' : Sto) (o : Option D) : Res D := match o with
  | some d => .ok d (S'.take n)
  | none => .stuck
def exK (n : Nat) (S' : Sto) (o : Option O) (d : Option D) : Res D := match o with
  | some o => .ok (.loc n) (S'.take n ++ [o])
  | none => exO n S' d
open Classical in
noncomputable def exitR (kp : Bool) (S : Sto) (r : Res D) : Res D := match r with
  | .ok d S' => if Cld S S' then exK S.length S' (if kp = true then keepO S' S.length d else none) (fzD S' S.length 8 d) else .stuck
  | .exc e S' => if Cld S S' ∧ (∀ x, e.v = some x → x.pureB = true) then .exc e (S'.take S.length) else .stuck
  | .stuck => .stuck
theorem outR.exit {K : PySem.W.Frag} {G : Ga} {W : WX} {kp : Bool} {r : Res D} {φ : List Addr} {S : Sto} {σ : St} {H : Hp} {Q : VK} (em : Emb K G φ S H) (h : outR K G W (rE K G) (exitR kp S r) φ σ H Q) : outR K G W (rE K G) r φ σ H Q := by
  cases r with
  | stuck => exact h
  | exc e S' =>
    intro φ' H' x em'
    unfold exitR at h
    simp only at h
    split at h
    · rename_i c
      obtain ⟨e1, e2, e3⟩ := em.cut x em' c.1
      have q := h φ H' e3 e1
      unfold XW at q ⊢
      cases hv : e.v with
      | none => rw [hv] at q; exact q
      | some y =>
        rw [hv] at q
        intro d v h1 h2
        refine q d v h1 ?_
        have := h2.pure S.length (c.2 y hv)
        rw [e2] at this
        exact this
    · exact h.elim
  | ok d S' =>
    intro φ' v H' x em' rv
    unfold exitR at h
    simp only at h
    split at h
    · rename_i c
      obtain ⟨e1, e2, e3⟩ := em.cut x em' c
      have fin : outR K G W (rE K G) (exO S.length S' (fzD S' S.length 8 d)) φ σ H Q → Q v H' := fun h => by
        unfold exO at h
        split at h
        · rename_i d' ed
          have := fz_ok em' S.length 8 d v d' rv ed
          rw [e2] at this
          exact h φ v H' e3 e1 this
        · exact h.elim
      unfold exK at h
      split at h
      · rename_i o eo
        split at eo
        · unfold keepO at eo
          split at eo
          · rename_i l
            split at eo
            · cases eo
            · rename_i hl
              cases rv with
              | @loc _ a ea =>
                have hf : (φ ++ [a])[S.length]? = some a := by rw [← em.len]; simp
                split at eo
                · rename_i xs es
                  split at eo
                  · rename_i hp
                    cases eo
                    obtain ⟨f1, f2⟩ := em.cut1 x em' c (Nat.le_of_not_lt hl) ea (em'.ob l _ a es ea) (pureAll_low hp)
                    exact h (φ ++ [a]) (.ref a) H' f2 f1 (.loc hf)
                  · cases eo
                · rename_i kvs es
                  split at eo
                  · rename_i hp
                    cases eo
                    obtain ⟨f1, f2⟩ := em.cut1 x em' c (Nat.le_of_not_lt hl) ea (em'.ob l _ a es ea) (pureAll_low hp)
                    exact h (φ ++ [a]) (.ref a) H' f2 f1 (.loc hf)
                  · cases eo
                · cases eo
          · cases eo
        · cases eo
      · exact fin h
    · exact h.elim
end MP

set_option Elab.async false
set_option linter.all false
set_option maxRecDepth 100000
set_option maxHeartbeats 2000000
namespace MP
open PySem L2
/-- a body's context -/
structure DX (X : Cx) (G : Ga) (W : WX) (k : Nat) : Prop where
  calm : X.calm = true
  tk : Takes X W
  pn : PassesOwn (model X.prog X.w) X.A X.env X.xe
  hr : Room k X.A
  nd : X.N.Nodup
/-- the classes -/
structure Gok (K : PySem.W.Frag) (G : Ga) : Prop where
  cls : ∀ c, G.has c = true → Cls K (G.cl c)
  noat : ∀ c f, G.has c = true → okF c f = true → NoAttr K (G.cl c) f.nm
section
variable {X : Cx} {G : Ga} {W : WX} {k : Nat}
theorem pe_conv {e : Expr} {t t' : TE} (h : PE X e t) (hh : ∀ σ H Q, t' σ H Q → t σ H Q) : PE X e t' := ⟨fun pins s σ H Q I ht => h.run pins s σ H Q I (hh _ _ _ ht)⟩
theorem pt_conv {e : Expr} {t t' : TT} (h : PT X e t) (hh : ∀ σ H Q, t' σ H Q → t σ H Q) : PT X e t' := ⟨fun pins s σ H Q I ht => h.run pins s σ H Q I (hh _ _ _ ht)⟩
theorem pw_conv {e : Expr} {t t' : TT} (h : PW X e t) (hh : ∀ σ H Q, t' σ H Q → t σ H Q) : PW X e t' := ⟨fun wh pins s σ H Q I ht => h.run wh pins s σ H Q I (hh _ _ _ ht)⟩
theorem pa_conv {e : List Expr} {t t' : TA} (h : PA X e t) (hh : ∀ σ H Q, t' σ H Q → t σ H Q) : PA X e t' := ⟨fun pos pins s σ H Q I ht => h.run pos pins s σ H Q I (hh _ _ _ ht)⟩
theorem ps_conv {e : Stmt} {t t' : TS} (h : PS X e t) (hh : ∀ D σ H, t' D σ H → t D σ H) : PS X e t' := ⟨fun pins s σ H D I ht => h.run pins s σ H D I (hh _ _ _ ht)⟩
theorem pss_conv {e : List Stmt} {t t' : TS} (h : PSs X e t) (hh : ∀ D σ H, t' D σ H → t D σ H) : PSs X e t' := ⟨fun pins s σ H D I ht => h.run pins s σ H D I (hh _ _ _ ht)⟩
theorem pg_conv {e : Expr} {t t' : TG} (h : PG X e t) (hh : ∀ v σ H Q, t' v σ H Q → t v σ H Q) : PG X e t' := ⟨fun pins s σ H v u Q I r ht => h.run pins s σ H v u Q I r (hh _ _ _ _ ht)⟩
theorem pi_conv {tg e : Expr} {t t' : TI} (h : PI X tg e t) (hh : ∀ σ H Q, t' σ H Q → t σ H Q) : PI X tg e t' := ⟨fun pins s σ H Q I ht => h.run pins s σ H Q I (hh _ _ _ ht)⟩
theorem pe_or2 {e : Expr} {t t' : TE} (h : PE X e t) (h' : PE X e t') : PE X e (fun σ H Q => t σ H Q ∨ t' σ H Q) := ⟨fun pins s σ H Q I ht => ht.elim (h.run pins s σ H Q I) (h'.run pins s σ H Q I)⟩
theorem ps_or2 {e : Stmt} {t t' : TS} (h : PS X e t) (h' : PS X e t') : PS X e (fun D σ H => t D σ H ∨ t' D σ H) := ⟨fun pins s σ H Q I ht => ht.elim (h.run pins s σ H Q I) (h'.run pins s σ H Q I)⟩
theorem pi_or2 {tg e : Expr} {t t' : TI} (h : PI X tg e t) (h' : PI X tg e t') : PI X tg e (fun σ H Q => t σ H Q ∨ t' σ H Q) := ⟨fun pins s σ H Q I ht => ht.elim (h.run pins s σ H Q I) (h'.run pins s σ H Q I)⟩
theorem pg_or2 {e : Expr} {t t' : TG} (h : PG X e t) (h' : PG X e t') : PG X e (fun v σ H Q => t v σ H Q ∨ t' v σ H Q) := ⟨fun pins s σ H v u Q I r ht => ht.elim (h.run pins s σ H v u Q I r) (h'.run pins s σ H v u Q I r)⟩

/-! ### two ways: the first that is not stuck -/
def mAlt (a b : MEx) : MEx := fun ρ S => match a ρ S with
  | .stuck => b ρ S
  | r => r
theorem d_alt {e : Expr} {a b : MEx} (ha : PE X e (wpE X.K G W a)) (hb : PE X e (wpE X.K G W b)) : PE X e (wpE X.K G W (mAlt a b)) := by
  refine pe_conv (pe_or2 ha hb) ?_
  rintro σ H Q ⟨φ, ρ, S, em, rs, h⟩
  unfold mAlt at h
  cases q : a ρ S with
  | ok d S' => rw [q] at h; exact .inl ⟨φ, ρ, S, em, rs, by rw [q]; exact h⟩
  | exc d S' => rw [q] at h; exact .inl ⟨φ, ρ, S, em, rs, by rw [q]; exact h⟩
  | stuck => rw [q] at h; exact .inr ⟨φ, ρ, S, em, rs, h⟩
def sAlt (a b : MSt) : MSt := fun ρ S => match a ρ S with
  | .stuck => b ρ S
  | r => r
theorem s_alt {e : Stmt} {a b : MSt} (ha : PS X e (wpS X.K G W a)) (hb : PS X e (wpS X.K G W b)) : PS X e (wpS X.K G W (sAlt a b)) := by
  refine ps_conv (ps_or2 ha hb) ?_
  rintro D σ H ⟨φ, ρ, S, em, rs, h⟩
  by_cases q : a ρ S = .stuck
  · have : sAlt a b ρ S = b ρ S := by unfold sAlt; rw [q]
    rw [this] at h
    exact .inr ⟨φ, ρ, S, em, rs, h⟩
  · have : sAlt a b ρ S = a ρ S := by unfold sAlt; cases z : a ρ S <;> first | rfl | exact absurd z q
    rw [this] at h
    exact .inl ⟨φ, ρ, S, em, rs, h⟩

/-! ### names and constants -/
def mVar (i : Nat) : MEx := fun ρ S => match ρ[i]? with
  | some (some d) => .ok d S
  | _ => .stuck
theorem d_var (i : Nat) {x : Str} {pos : Pos} (hN : X.N[i]? = some x := by rfl) (hv : Vis X.env.scope x := by first | exact Or.inl rfl | exact Or.inr (Or.inl rfl) | exact Or.inr (Or.inr rfl)) (hd : (x == ("__debug__" : Str)) = false := by decide)
    (hcd : (x == ("__classdict__" : Str)) = false := by decide) : PE X (.Name x pos) (wpE X.K G W (mVar i)) := by
  refine pe_conv (pe_var hN hv hd hcd) ?_
  rintro σ H Q ⟨φ, ρ, S, em, rs, h⟩
  unfold mVar at h
  split at h
  · rename_i d e
    obtain ⟨v, e1, r⟩ := rs.at_ i d e
    exact ⟨v, e1, outR.ok h em r⟩
  · exact h.elim
def mC (d : D) : MEx := fun _ S => .ok d S
theorem d_const {e : Expr} {v : V} {d : D} (h : PE X e (tC v)) (r : ∀ H φ, RV X.K G H φ d v) : PE X e (wpE X.K G W (mC d)) := by
  refine pe_conv h ?_
  rintro σ H Q ⟨φ, ρ, S, em, rs, h⟩
  exact outR.ok (R := rE X.K G) h em (r H φ)
theorem d_int {i : Int} {j : Nat} {pos : Pos} : PE X (.Constant (.int i) j pos) (wpE X.K G W (mC (.int i))) := d_const pe_int fun _ _ => .int
theorem d_bl {b : Bool} {j : Nat} {pos : Pos} : PE X (.Constant (.bool b) j pos) (wpE X.K G W (mC (.bl b))) := d_const pe_bl fun _ _ => .bl
theorem d_non {j : Nat} {pos : Pos} : PE X (.Constant .none j pos) (wpE X.K G W (mC .non)) := d_const pe_non fun _ _ => .non
theorem d_str {x : Str} {j : Nat} {pos : Pos} : PE X (.Constant (.str x) j pos) (wpE X.K G W (mC (.str x))) := d_const pe_str fun _ _ => .str
/-- a constant of the module -/
structure GlC (K : PySem.W.Frag) (G : Ga) (mg : Str → Option Value) (x : Str) (d : D) : Prop where
  ex : ∃ u v, mg x = some u ∧ RelV v u ∧ ∀ H φ, RV K G H φ d v
theorem d_glob {x : Str} {d : D} {pos : Pos} (g : GlC X.K G X.mg x d) (hg : Gl X x := by rfl) (hd : (x == ("__debug__" : Str)) = false := by decide) : PE X (.Name x pos) (wpE X.K G W (mC d)) := by
  obtain ⟨u, v, hm, r, q⟩ := g.ex
  exact d_const (pe_glob hg hm r hd) q

/-! ### operators -/
def mOp2 (f : D → D → Sto → Res D) (a b : MEx) : MEx := fun ρ S => (a ρ S).bind fun x S1 => (b ρ S1).bind fun y S2 => f x y S2
def OpS (K : PySem.W.Frag) (G : Ga) (W : WX) (f : D → D → Sto → Res D) (r : R2) : Prop :=
  ∀ φ S σ H d1 d2 v1 v2 Q, Emb K G φ S H → RV K G H φ d1 v1 → RV K G H φ d2 v2 → outR K G W (rE K G) (f d1 d2 S) φ σ H Q → r v1 v2 H Q
theorem op2 {K : PySem.W.Frag} {f : D → D → Sto → Res D} {r : R2} {a b : MEx} (hs : OpS K G W f r) (σ : St) (H : Hp) (Q : VK) (h : wpE K G W (mOp2 f a b) σ H Q) : tOp r (wpE K G W a) (wpE K G W b) σ H Q := by
  obtain ⟨φ, ρ, S, em, rs, h⟩ := h
  refine ⟨φ, ρ, S, em, rs, h.bind fun d1 S1 φ1 v1 H1 x1 em1 rv1 h1 => ?_⟩
  refine ⟨φ1, ρ, S1, em1, rs.ext x1, h1.bind fun d2 S2 φ2 v2 H2 x2 em2 rv2 h2 => ?_⟩
  exact hs φ2 S2 σ H2 d1 d2 v1 v2 Q em2 (RV.ext x2 rv1) rv2 h2
section
variable {a b : Expr} {ma mb : MEx} {pos : Pos} {f : D → D → Sto → Res D} {r : R2}
theorem d_bin {op : Operator} (ho : OpR X (binaryOp op) r) (hs : OpS X.K G W f r) (ha : PE X a (wpE X.K G W ma)) (hb : PE X b (wpE X.K G W mb)) : PE X (.BinOp a op b pos) (wpE X.K G W (mOp2 f ma mb)) :=
  pe_conv (pe_op ho ha hb) (op2 hs)
theorem d_cmp {op : CmpOp} (ho : OpR X (compareOp op) r) (hs : OpS X.K G W f r) (ha : PE X a (wpE X.K G W ma)) (hb : PE X b (wpE X.K G W mb)) (hm : behindInMarks op b = false) : PE X (.Compare a [op] [b] pos) (wpE X.K G W (mOp2 f ma mb)) :=
  pe_conv (pe_cmpR ho ha hb hm) (op2 hs)
end
/-- a value that is a truth -/
def asB (d : D) (S : Sto) : Res Bool := match d with
  | .bl b => .ok b S
  | _ => .stuck
def mTest (m : MEx) : MTs := fun ρ S => (m ρ S).bind asB
theorem test {K : PySem.W.Frag} {m : MEx} {t : TE} (hh : ∀ σ H Q, wpE K G W m σ H Q → t σ H Q) (σ : St) (H : Hp) (Q : Bool → Hp → Prop) (h : wpT K G W (mTest m) σ H Q) : t σ H fun x H' => ∃ c, x = .bl c ∧ Q c H' := by
  obtain ⟨φ, ρ, S, em, rs, h⟩ := h
  refine hh _ _ _ ⟨φ, ρ, S, em, rs, h.bind fun d S1 φ1 v H1 x em1 rv h1 => ?_⟩
  cases rv with
  | @bl b => exact ⟨b, rfl, outR.ok (R := rT) h1 em1 rfl⟩
  | _ => exact h1.elim
section
variable {a b : Expr} {ma mb : MEx} {pos : Pos} {f : D → D → Sto → Res D} {r : R2}
theorem t_cmp {op : CmpOp} (ho : OpR X (compareOp op) r) (hs : OpS X.K G W f r) (ha : PE X a (wpE X.K G W ma)) (hb : PE X b (wpE X.K G W mb)) (hm : behindInMarks op b = false) : PT X (.Compare a [op] [b] pos) (wpT X.K G W (mTest (mOp2 f ma mb))) :=
  pt_conv (pt_cmpR ho ha hb hm) (test (op2 hs))
theorem t_val {e : Expr} {m : MEx} (h : PE X e (wpE X.K G W m)) (he : ∀ whole, isTrue e X.env whole = (do let v ← whole; standAt e.pos; holding [v] (truthy v)) := by intro _; rfl) : PT X e (wpT X.K G W (mTest m)) :=
  pt_conv (pt_val h he) (test fun _ _ _ z => z)
end
def tAnd' (a b : MTs) : MTs := fun ρ S => (a ρ S).bind fun c S1 => if c = true then b ρ S1 else .ok false S1
def tOr' (a b : MTs) : MTs := fun ρ S => (a ρ S).bind fun c S1 => if c = true then .ok true S1 else b ρ S1
def tNot' (a : MTs) : MTs := fun ρ S => (a ρ S).bind fun c S1 => .ok (!c) S1
section
variable {a b : Expr} {rest : List Expr} {ma mb : MTs} {pos : Pos}
theorem t_and1 (ha : PT X a (wpT X.K G W ma)) : PW X (.BoolOp .And [a] pos) (wpT X.K G W ma) := pw_and1 ha
theorem t_or1 (ha : PT X a (wpT X.K G W ma)) : PW X (.BoolOp .Or [a] pos) (wpT X.K G W ma) := pw_or1 ha
theorem t_and (ha : PT X a (wpT X.K G W ma)) (hb : PW X (.BoolOp .And (b :: rest) pos) (wpT X.K G W mb)) : PW X (.BoolOp .And (a :: b :: rest) pos) (wpT X.K G W (tAnd' ma mb)) := by
  refine pw_conv (pw_and ha hb) ?_
  rintro σ H Q ⟨φ, ρ, S, em, rs, h⟩
  refine ⟨φ, ρ, S, em, rs, h.bind fun c S1 φ1 c' H1 x em1 rv h1 => ?_⟩
  cases (show c = c' from rv)
  cases c with
  | true => rw [if_pos rfl] at h1 ⊢; exact ⟨φ1, ρ, S1, em1, rs.ext x, h1⟩
  | false => rw [if_neg Bool.false_ne_true] at h1 ⊢; exact outR.ok (R := rT) h1 em1 rfl
theorem t_or (ha : PT X a (wpT X.K G W ma)) (hb : PW X (.BoolOp .Or (b :: rest) pos) (wpT X.K G W mb)) : PW X (.BoolOp .Or (a :: b :: rest) pos) (wpT X.K G W (tOr' ma mb)) := by
  refine pw_conv (pw_or ha hb) ?_
  rintro σ H Q ⟨φ, ρ, S, em, rs, h⟩
  refine ⟨φ, ρ, S, em, rs, h.bind fun c S1 φ1 c' H1 x em1 rv h1 => ?_⟩
  cases (show c = c' from rv)
  cases c with
  | true => rw [if_pos rfl] at h1 ⊢; exact outR.ok (R := rT) h1 em1 rfl
  | false => rw [if_neg Bool.false_ne_true] at h1 ⊢; exact ⟨φ1, ρ, S1, em1, rs.ext x, h1⟩
theorem t_not (ha : PT X a (wpT X.K G W ma)) : PT X (.UnaryOp .Not a pos) (wpT X.K G W (tNot' ma)) := by
  refine pt_conv (pt_not ha) ?_
  rintro σ H Q ⟨φ, ρ, S, em, rs, h⟩
  refine ⟨φ, ρ, S, em, rs, h.bind fun c S1 φ1 c' H1 x em1 rv h1 => ?_⟩
  cases (show c = c' from rv)
  exact outR.ok (R := rT) h1 em1 rfl
end
/-- and, or, not as values (truths all but the last) -/
def mAnd (a b : MEx) : MEx := fun ρ S => (a ρ S).bind fun d S1 => match d with
  | .bl true => b ρ S1
  | .bl false => .ok (.bl false) S1
  | _ => .stuck
def mOr (a b : MEx) : MEx := fun ρ S => (a ρ S).bind fun d S1 => match d with
  | .bl true => .ok (.bl true) S1
  | .bl false => b ρ S1
  | _ => .stuck
def mNot (a : MEx) : MEx := fun ρ S => (a ρ S).bind fun d S1 => match d with
  | .bl b => .ok (.bl (!b)) S1
  | _ => .stuck
def mIfE (c : MTs) (a b : MEx) : MEx := fun ρ S => (c ρ S).bind fun t S1 => if t = true then a ρ S1 else b ρ S1
section
variable {a b c : Expr} {rest : List Expr} {ma mb : MEx} {mc : MTs} {pos : Pos}
theorem d_one {op : BoolOp} (h : PE X a (wpE X.K G W ma)) : PE X (.BoolOp op [a] pos) (wpE X.K G W ma) := pe_one h
theorem d_and (ha : PE X a (wpE X.K G W ma)) (hb : PE X (.BoolOp .And (b :: rest) pos) (wpE X.K G W mb)) : PE X (.BoolOp .And (a :: b :: rest) pos) (wpE X.K G W (mAnd ma mb)) := by
  refine pe_conv (pe_and ha hb) ?_
  rintro σ H Q ⟨φ, ρ, S, em, rs, h⟩
  refine ⟨φ, ρ, S, em, rs, h.bind fun d S1 φ1 v H1 x em1 rv h1 => ?_⟩
  cases rv with
  | @bl t =>
    refine ⟨t, rfl, ?_⟩
    cases t with
    | true => exact ⟨φ1, ρ, S1, em1, rs.ext x, h1⟩
    | false => exact outR.ok (R := rE X.K G) h1 em1 .bl
  | _ => exact h1.elim
theorem d_or (ha : PE X a (wpE X.K G W ma)) (hb : PE X (.BoolOp .Or (b :: rest) pos) (wpE X.K G W mb)) : PE X (.BoolOp .Or (a :: b :: rest) pos) (wpE X.K G W (mOr ma mb)) := by
  refine pe_conv (pe_or ha hb) ?_
  rintro σ H Q ⟨φ, ρ, S, em, rs, h⟩
  refine ⟨φ, ρ, S, em, rs, h.bind fun d S1 φ1 v H1 x em1 rv h1 => ?_⟩
  cases rv with
  | @bl t =>
    refine ⟨t, rfl, ?_⟩
    cases t with
    | true => exact outR.ok (R := rE X.K G) h1 em1 .bl
    | false => exact ⟨φ1, ρ, S1, em1, rs.ext x, h1⟩
  | _ => exact h1.elim
theorem d_not (ha : PE X a (wpE X.K G W ma)) : PE X (.UnaryOp .Not a pos) (wpE X.K G W (mNot ma)) := by
  refine pe_conv (pe_not ha) ?_
  rintro σ H Q ⟨φ, ρ, S, em, rs, h⟩
  refine ⟨φ, ρ, S, em, rs, h.bind fun d S1 φ1 v H1 x em1 rv h1 => ?_⟩
  cases rv with
  | @bl t => exact ⟨t, rfl, outR.ok (R := rE X.K G) h1 em1 .bl⟩
  | _ => exact h1.elim
theorem d_ife (hc : PT X c (wpT X.K G W mc)) (ha : PE X a (wpE X.K G W ma)) (hb : PE X b (wpE X.K G W mb)) : PE X (.IfExp c a b pos) (wpE X.K G W (mIfE mc ma mb)) := by
  refine pe_conv (pe_ifExp hc ha hb) ?_
  rintro σ H Q ⟨φ, ρ, S, em, rs, h⟩
  refine ⟨φ, ρ, S, em, rs, h.bind fun t S1 φ1 t' H1 x em1 rv h1 => ?_⟩
  cases (show t = t' from rv)
  cases t with
  | true => exact ⟨φ1, ρ, S1, em1, rs.ext x, h1⟩
  | false => exact ⟨φ1, ρ, S1, em1, rs.ext x, h1⟩
end
/-! ### arguments, displays -/
def aNil : MAr := fun _ S => .ok [] S
def aCons (a : MEx) (r : MAr) : MAr := fun ρ S => (a ρ S).bind fun d S1 => (r ρ S1).bind fun ds S2 => .ok (d :: ds) S2
section
variable {e : Expr} {es : List Expr} {m : MEx} {ms : MAr} {pos : Pos}
theorem a_nil : PA X [] (wpA X.K G W aNil) := by
  refine pa_conv pa_nil ?_
  rintro σ H Q ⟨φ, ρ, S, em, rs, h⟩
  exact outR.ok (R := rA X.K G) h em .nil
theorem a_cons (ha : PE X e (wpE X.K G W m)) (hr : PA X es (wpA X.K G W ms)) (hs : starEach (e :: es) X.env = (false, eval e X.env) :: starEach es X.env := by rfl) : PA X (e :: es) (wpA X.K G W (aCons m ms)) := by
  refine pa_conv (pa_cons ha hr hs) ?_
  rintro σ H Q ⟨φ, ρ, S, em, rs, h⟩
  refine ⟨φ, ρ, S, em, rs, h.bind fun d S1 φ1 v H1 x em1 rv h1 => ?_⟩
  refine ⟨φ1, ρ, S1, em1, rs.ext x, h1.bind fun ds S2 φ2 vs H2 x2 em2 rvs h2 => ?_⟩
  exact outR.ok (R := rA X.K G) h2 em2 (.cons (RV.ext x2 rv) rvs)
def tupD (ds : List D) (S : Sto) : Res D := if ds.length ≤ sizeLine then .ok (.tup ds) S else .stuck
def mTup (ms : MAr) : MEx := fun ρ S => (ms ρ S).bind tupD
theorem d_tup {j : Nat} (h : PA X es (wpA X.K G W ms)) : PE X (.Tuple es j pos) (wpE X.K G W (mTup ms)) := by
  refine pe_conv (pe_tup h) ?_
  rintro σ H Q ⟨φ, ρ, S, em, rs, h⟩
  refine ⟨φ, ρ, S, em, rs, h.bind fun ds S1 φ1 vs H1 x em1 rv h1 => ?_⟩
  unfold tupD at h1
  split at h1
  · rename_i hl
    refine ⟨by rw [← RVs.length rv]; exact hl, fun p hp => ?_⟩
    exact h1 φ1 _ _ (.other hp) (em1.other hp) (.tup (.of upd_same) (RVs.ext (.other hp) rv))
  · exact h1.elim
/-- a new object -/
def newO (o : O) (S : Sto) : Res D := .ok (.loc S.length) (S ++ [o])
/-- a new list that nobody will change -/
def newV (ds : List D) (S : Sto) : Res D := if pureAll ds = true then .ok (.vl ds) S else .stuck
/-- a new list: tr: one that may be changed -/
def newL (tr : Bool) (ds : List D) (S : Sto) : Res D := match tr with
  | true => newO (.lst ds) S
  | false => newV ds S
def lstD (tr : Bool) (ds : List D) (S : Sto) : Res D := if ds.length ≤ sizeLine then newL tr ds S else .stuck
def mLst (tr : Bool) (ms : MAr) : MEx := fun ρ S => (ms ρ S).bind (lstD tr)
theorem outR.newL {K : PySem.W.Frag} {tr : Bool} {ds : List D} {S : Sto} {φ : List Addr} {σ : St} {H : Hp} {Q : VK} {vs : List V} {p : Addr} (h : outR K G W (rE K G) (newL tr ds S) φ σ H Q) (em : Emb K G φ S H) (rv : RVs K G H φ ds vs) (hp : H p = none) :
    Q (.ref p) (upd H p (.lst vs)) := by
  cases tr with
  | true =>
    refine h (φ ++ [p]) (.ref p) _ (.new hp) (em.new hp (.lst upd_same (RVs.ext (.new hp) rv))) (.loc ?_)
    rw [← em.len]
    simp
  | false =>
    unfold MP.newL newV at h
    simp only at h
    split at h
    · rename_i hpu
      refine h φ (.ref p) _ (.other hp) (em.other hp) (.vl (fun z => ?_) upd_same (RVs.ext (.other hp) rv) hpu)
      obtain ⟨u, e⟩ := em.there z
      rw [hp] at e; cases e
    · exact h.elim
theorem d_lst {tr : Bool} (h : PA X es (wpA X.K G W ms)) : PE X (.List es pos) (wpE X.K G W (mLst tr ms)) := by
  refine pe_conv (pe_lst h) ?_
  rintro σ H Q ⟨φ, ρ, S, em, rs, h⟩
  refine ⟨φ, ρ, S, em, rs, h.bind fun ds S1 φ1 vs H1 x em1 rv h1 => ?_⟩
  unfold lstD at h1
  split at h1
  · rename_i hl
    exact ⟨by rw [← RVs.length rv]; exact hl, fun p hp => h1.newL em1 rv hp⟩
  · exact h1.elim
end
/-! ### the operators' meanings -/
/-- a list as it may be changed, or copied out of by the strict ones -/
def lsmO (S : Sto) (d : D) : Option (List D) := match d with
  | .vl xs => some xs
  | .loc l => match S[l]? with
    | some (.lst xs) => some xs
    | _ => none
  | _ => none
theorem lsm_ok {K : PySem.W.Frag} {φ : List Addr} {S : Sto} {H : Hp} (em : Emb K G φ S H) {d : D} {v : V} {xs : List D} (r : RV K G H φ d v) (h : lsmO S d = some xs) : ∃ p vs, v = .ref p ∧ H p = some (.lst vs) ∧ RVs K G H φ xs vs := by
  unfold lsmO at h
  split at h
  · cases h
    cases r with
    | vl n q s p => exact ⟨_, _, rfl, q, s⟩
  · split at h
    · rename_i ys e
      cases h
      obtain ⟨a, rfl, _, ro⟩ := em.at_loc e r
      obtain ⟨vs, sq, rv⟩ := ro.lstM
      exact ⟨_, _, rfl, sq, rv⟩
    · cases h
  · cases h
/-- a list as it may be read -/
def lstO (S : Sto) (d : D) : Option (List D) := match d with
  | .vl xs => some xs
  | .cl xs => some xs
  | .loc l => match S[l]? with
    | some (.lst xs) => some xs
    | _ => none
  | _ => none
theorem lst_ok {K : PySem.W.Frag} {φ : List Addr} {S : Sto} {H : Hp} (em : Emb K G φ S H) {d : D} {v : V} {xs : List D} (r : RV K G H φ d v) (h : lstO S d = some xs) : ∃ p vs, v = .ref p ∧ SqL K H p vs ∧ RVs K G H φ xs vs := by
  unfold lstO at h
  split at h
  · cases h
    cases r with
    | vl n q s p => exact ⟨_, _, rfl, .inl (.inl q), s⟩
  · cases h
    cases r with
    | cl q s p => exact ⟨_, _, rfl, q.sql, s⟩
  · split at h
    · rename_i ys e
      cases h
      obtain ⟨a, rfl, _, ro⟩ := em.at_loc e r
      obtain ⟨vs, sq, rv⟩ := ro.sql
      exact ⟨_, _, rfl, sq, rv⟩
    · cases h
  · cases h
def catL (tr : Bool) (x y : Option (List D)) (S : Sto) : Res D := match x, y with
  | some xs, some ys => if xs.length + ys.length ≤ sizeLine then newL tr (xs ++ ys) S else .stuck
  | _, _ => .stuck
def addD (tr : Bool) (x y : D) (S : Sto) : Res D := match x, y with
  | .int i, .int j => .ok (.int (i + j)) S
  | .str a, .str b => if a.length + b.length ≤ sizeLine then .ok (.str (a ++ b)) S else .stuck
  | .tup xs, .tup ys => if xs ≠ [] ∧ ys ≠ [] ∧ xs.length + ys.length ≤ sizeLine then .ok (.tup (xs ++ ys)) S else .stuck
  | x, y => catL tr (lstO S x) (lstO S y) S
/-- list + list, also of known ones -/
def rCatQ (K : PySem.W.Frag) : R2 := fun x y H Q => ∃ l b xs zs, x = .ref l ∧ y = .ref b ∧ SqL K H l xs ∧ SqL K H b zs ∧ xs.length + zs.length ≤ sizeLine ∧ ∀ p, H p = none → Q (.ref p) (upd H p (.lst (xs ++ zs)))
end
end MP

set_option Elab.async false
set_option linter.all false
set_option maxRecDepth 100000
set_option maxHeartbeats 2000000
namespace MP
open PySem L2
section
variable {X : Cx} {G : Ga} {W : WX} {k : Nat}
theorem op_catQ : OpR X (binaryOp .Add) (rCatQ X.K) := by
  intro pins s σ H x y v u Q I rx ry h
  obtain ⟨l, b, xs, zs, rfl, rfl, hH, hB, hz, q⟩ := h
  cases rx
  cases ry
  obtain ⟨its, r, pl, hl⟩ := I.list hH
  obtain ⟨its2, r2, pl2, hl2⟩ := I.list hB
  have e1 := r.length
  have e2 := r2.length
  obtain ⟨o, n, ho, hc, hdn, hd⟩ := pl
  obtain ⟨o', n', ho', hc', hdn', hd'⟩ := pl2
  obtain ⟨cls, dd, data, sl⟩ := o
  obtain ⟨cls', dd', data', sl'⟩ := o'
  simp only at hc hd hc' hd' hdn hdn'
  subst hc hd hc' hd' hdn hdn'
  refine PySem.concat_meets ⟨_, ho, rfl⟩ ⟨_, ho', rfl⟩ PySem.noFill_list_add PySem.seq_list_add PySem.F.slot_list_add PySem.F.entry_list_add (PySem.F.args_list_add_2 _ _)
    (PyProof.Rows.list_addW l b its.toArray its2.toArray n n' _ _ sl sl' (by simp; omega)) ⟨ho, ho', ?_⟩
  have ea : its.toArray ++ its2.toArray = (its ++ its2).toArray := by simp
  rw [ea]
  exact ⟨.ref _, _, I.lnew (t' := s.toks) (r.append r2) (by rw [List.length_append]; omega), rfl, q _ I.fresh⟩
def rAddU (K : PySem.W.Frag) : R2 := fun x y H Q => (rI0 (fun i j => .int (i + j))) x y H Q ∨ (∃ i j, x = .str i ∧ y = .str j ∧ i.length + j.length ≤ sizeLine ∧ Q (.str (i ++ j)) H) ∨ rCatQ K x y H Q ∨ rCatT K x y H Q
theorem op_addU : OpR X (binaryOp .Add) (rAddU X.K) := op_add.or (op_add_str.or (op_catQ.or op_catT))
theorem s_add {K : PySem.W.Frag} {tr : Bool} : OpS K G W (addD tr) (rAddU K) := by
  intro φ S σ H d1 d2 v1 v2 Q em r1 r2 h
  unfold addD at h
  split at h
  · cases r1; cases r2
    exact .inl ⟨_, _, rfl, rfl, outR.ok (R := rE K G) h em .int⟩
  · cases r1; cases r2
    split at h
    · rename_i hl
      exact .inr (.inl ⟨_, _, rfl, rfl, hl, outR.ok (R := rE K G) h em .str⟩)
    · exact h.elim
  · split at h
    · rename_i hl
      cases r1 with
      | tup s1 q1 =>
        cases r2 with
        | tup s2 q2 =>
          have e1 := RVs.length q1
          have e2 := RVs.length q2
          refine .inr (.inr (.inr ⟨_, _, _, _, rfl, rfl, s1, s2, ?_, by rw [← e1, ← e2]; exact hl.2.2, ?_, ?_⟩))
          · intro z
            rw [z] at e1
            exact hl.1 (List.length_eq_zero_iff.mp e1)
          · intro z
            rw [z] at e2
            exact absurd (List.length_eq_zero_iff.mp e2) hl.2.1
          · intro _ p hp
            exact h φ _ _ (.other hp) (em.other hp) (.tup (.of upd_same) (RVs.ext (.other hp) (RVs.append q1 q2)))
    · exact h.elim
  · unfold catL at h
    split at h
    · rename_i xs ys e1 e2
      split at h
      · rename_i hl
        obtain ⟨a, vs, rfl, hs, rv⟩ := lst_ok em r1 e1
        obtain ⟨b, vs', rfl, hs', rv'⟩ := lst_ok em r2 e2
        refine .inr (.inr (.inl ⟨a, b, vs, vs', rfl, rfl, hs, hs', by rw [← RVs.length rv, ← RVs.length rv']; exact hl, fun p hp => ?_⟩))
        exact h.newL em (RVs.append rv rv') hp
      · exact h.elim
    · exact h.elim
/-- int operators -/
def intOp (f : Int → Int → Option Int) : D → D → Sto → Res D := fun x y S => match x, y with
  | .int i, .int j => match f i j with
    | some z => .ok (.int z) S
    | none => .stuck
  | _, _ => .stuck
theorem s_int {K : PySem.W.Frag} {f : Int → Int → Option Int} {C : Int → Int → Prop} {g : Int → Int → Int} (hf : ∀ i j z, f i j = some z → C i j ∧ z = g i j) : OpS K G W (intOp f) (rI C fun i j => .int (g i j)) := by
  intro φ S σ H d1 d2 v1 v2 Q em r1 r2 h
  unfold intOp at h
  split at h
  · cases r1; cases r2
    split at h
    · rename_i z e
      obtain ⟨c, rfl⟩ := hf _ _ _ e
      exact ⟨_, _, rfl, rfl, c, outR.ok (R := rE K G) h em .int⟩
    · exact h.elim
  · exact h.elim
theorem s_int0 {K : PySem.W.Frag} {f : Int → Int → Option Int} {g : Int → Int → Int} (hf : ∀ i j z, f i j = some z → z = g i j) : OpS K G W (intOp f) (rI0 fun i j => .int (g i j)) := by
  intro φ S σ H d1 d2 v1 v2 Q em r1 r2 h
  unfold intOp at h
  split at h
  · cases r1; cases r2
    split at h
    · rename_i z e
      have := hf _ _ _ e
      subst this
      exact ⟨_, _, rfl, rfl, outR.ok (R := rE K G) h em .int⟩
    · exact h.elim
  · exact h.elim
def subI (i j : Int) : Option Int := some (i - j)
def fdivI (i j : Int) : Option Int := if 0 < j ∧ j.natAbs.log2 < 9000 then some (i / j) else none
def modI (i j : Int) : Option Int := if 0 < j then some (i % j) else none
def powI (i j : Int) : Option Int := if 0 ≤ j ∧ j ≤ 1000000 ∧ i.natAbs < 2 ^ 64 then some (i ^ j.toNat) else none
def shlI (i j : Int) : Option Int := if 0 ≤ j ∧ (Builtin.Int.intBits i : Int) + j ≤ 2 ^ 27 then some (i * 2 ^ j.toNat) else none
def shrI (i j : Int) : Option Int := if 0 ≤ j then some (i / 2 ^ j.toNat) else none
def andI (i j : Int) : Option Int := some (Builtin.bitAnd i j)
def orI (i j : Int) : Option Int := some (Builtin.bitOr i j)
theorem ifs {c : Prop} [Decidable c] {z z' : Int} (h : (if c then some z' else none) = some z) : c ∧ z = z' := by
  split at h
  · rename_i hc; cases h; exact ⟨hc, rfl⟩
  · cases h
theorem s_sub {K : PySem.W.Frag} : OpS K G W (intOp subI) (rI0 fun i j => .int (i - j)) := s_int0 fun _ _ _ e => (Option.some.inj e).symm
theorem s_fdiv {K : PySem.W.Frag} : OpS K G W (intOp fdivI) (rI CDivW fun i j => .int (i / j)) := s_int fun _ _ _ e => by
  first | unfold fdivI at e | unfold modI at e | unfold powI at e | unfold shlI at e | unfold shrI at e
  have q := ifs e
  exact ⟨q.1, q.2⟩
theorem s_mod {K : PySem.W.Frag} : OpS K G W (intOp modI) (rI (fun _ j => 0 < j) fun i j => .int (i % j)) := s_int fun _ _ _ e => by
  first | unfold fdivI at e | unfold modI at e | unfold powI at e | unfold shlI at e | unfold shrI at e
  have q := ifs e
  exact ⟨q.1, q.2⟩
theorem s_pow {K : PySem.W.Frag} : OpS K G W (intOp powI) (rI CPow fun i j => .int (i ^ j.toNat)) := s_int fun _ _ _ e => by
  first | unfold fdivI at e | unfold modI at e | unfold powI at e | unfold shlI at e | unfold shrI at e
  have q := ifs e
  exact ⟨q.1, q.2⟩
theorem s_shl {K : PySem.W.Frag} : OpS K G W (intOp shlI) (rI CShl fun i j => .int (i * 2 ^ j.toNat)) := s_int fun _ _ _ e => by
  first | unfold fdivI at e | unfold modI at e | unfold powI at e | unfold shlI at e | unfold shrI at e
  have q := ifs e
  exact ⟨q.1, q.2⟩
theorem s_shr {K : PySem.W.Frag} : OpS K G W (intOp shrI) (rI (fun _ j => 0 ≤ j) fun i j => .int (i / 2 ^ j.toNat)) := s_int fun _ _ _ e => by
  first | unfold fdivI at e | unfold modI at e | unfold powI at e | unfold shlI at e | unfold shrI at e
  have q := ifs e
  exact ⟨q.1, q.2⟩
theorem s_band {K : PySem.W.Frag} : OpS K G W (intOp andI) (rI0 fun i j => .int (Builtin.bitAnd i j)) := s_int0 fun _ _ _ e => (Option.some.inj e).symm
theorem s_bor {K : PySem.W.Frag} : OpS K G W (intOp orI) (rI0 fun i j => .int (Builtin.bitOr i j)) := s_int0 fun _ _ _ e => (Option.some.inj e).symm
/-- n times a list of the store -/
def repL (tr : Bool) (xs : List D) (y : D) (S : Sto) : Res D := match y with
  | .int n => if -(2 ^ 63) ≤ n ∧ n < 2 ^ 63 ∧ xs.length * n.toNat ≤ sizeLine then newL tr (List.replicate n.toNat xs).flatten S else .stuck
  | _ => .stuck
def repO (tr : Bool) (o : Option (List D)) (y : D) (S : Sto) : Res D := match o with
  | some xs => repL tr xs y S
  | none => .stuck
def mulD (tr : Bool) (x y : D) (S : Sto) : Res D := match x, y with
  | .int i, .int j => if (Builtin.Int.intBits i : Int) + (Builtin.Int.intBits j : Int) ≤ 134217728 then .ok (.int (i * j)) S else .stuck
  | x, y => repO tr (lsmO S x) y S
def rMulU : R2 := fun x y H Q => (rI CMulX fun i j => .int (i * j)) x y H Q ∨ rRep x y H Q
theorem op_mulU : OpR X (binaryOp .Mult) rMulU := op_mulX.or op_rep
theorem RVs.rep {K : PySem.W.Frag} {H : Hp} {φ : List Addr} {xs : List D} {vs : List V} (r : RVs K G H φ xs vs) : ∀ n : Nat, RVs K G H φ (List.replicate n xs).flatten (List.replicate n vs).flatten
  | 0 => .nil
  | n + 1 => by
    rw [List.replicate_succ, List.replicate_succ, List.flatten_cons, List.flatten_cons]
    exact RVs.append r (RVs.rep r n)
theorem repL_ok {K : PySem.W.Frag} {tr : Bool} {xs : List D} {y : D} {vs : List V} {a : Addr} {u : V} {φ : List Addr} {S : Sto} {σ : St} {H : Hp} {Q : VK} (em : Emb K G φ S H) (ha : H a = some (.lst vs)) (rv : RVs K G H φ xs vs) (ry : RV K G H φ y u) (h : outR K G W (rE K G) (repL tr xs y S) φ σ H Q) : rRep (.ref a) u H Q := by
  unfold repL at h
  split at h
  · cases ry
    split at h
    · rename_i hl
      exact ⟨a, _, vs, rfl, rfl, ha, hl.1, hl.2.1, by rw [← RVs.length rv]; exact hl.2.2, fun p hp => h.newL em (RVs.rep rv _) hp⟩
    · exact h.elim
  · exact h.elim
theorem s_mul {K : PySem.W.Frag} {tr : Bool} : OpS K G W (mulD tr) rMulU := by
  intro φ S σ H d1 d2 v1 v2 Q em r1 r2 h
  unfold mulD at h
  split at h
  · cases r1; cases r2
    split at h
    · rename_i hl
      exact .inl ⟨_, _, rfl, rfl, hl, outR.ok (R := rE K G) h em .int⟩
    · exact h.elim
  · unfold repO at h
    split at h
    · rename_i xs e1
      obtain ⟨a, vs, rfl, hs, rv⟩ := lsm_ok em r1 e1
      exact .inr (repL_ok em hs rv r2 h)
    · exact h.elim
/-- [..] * n -/
def mRepD (tr : Bool) (ms : MAr) (mb : MEx) : MEx := fun ρ S => (ms ρ S).bind fun ds S1 => if ds.length ≤ sizeLine then (mb ρ S1).bind fun y S2 => repL tr ds y S2 else .stuck
theorem d_repD {tr : Bool} {es : List Expr} {b : Expr} {ms : MAr} {mb : MEx} {p pos : Pos} (ha : PA X es (wpA X.K G W ms)) (hb : PE X b (wpE X.K G W mb)) : PE X (.BinOp (.List es p) .Mult b pos) (wpE X.K G W (mRepD tr ms mb)) := by
  refine pe_conv (pe_op op_rep (pe_lst ha) hb) ?_
  rintro σ H Q ⟨φ, ρ, S, em, rs, h⟩
  refine ⟨φ, ρ, S, em, rs, h.bind fun ds S1 φ1 vs H1 x em1 rv h1 => ?_⟩
  split at h1
  · rename_i hl
    refine ⟨by rw [← RVs.length rv]; exact hl, fun p hp => ?_⟩
    have x2 : Ext φ1 H1 φ1 (upd H1 p (.lst vs)) := .other hp
    have np : p ∉ φ1 := fun z => by
      obtain ⟨u, e⟩ := em1.there z
      rw [hp] at e; cases e
    refine ⟨φ1, ρ, S1, em1.other hp, (rs.ext x).ext x2, (outR.from x2 h1).bind fun y S3 φ3 u H3 x3 em3 ry h3 => ?_⟩
    exact repL_ok em3 (x3.out _ _ np upd_same) (RVs.ext (x2.trans x3) rv) ry h3
  · exact h1.elim
/-! ### comparisons -/
def cmpI (p : Int → Int → Bool) : D → D → Sto → Res D := fun x y S => match x, y with
  | .int i, .int j => .ok (.bl (p i j)) S
  | _, _ => .stuck
theorem s_cmpI {K : PySem.W.Frag} {p : Int → Int → Bool} : OpS K G W (cmpI p) (rI0 fun i j => .bl (p i j)) := by
  intro φ S σ H d1 d2 v1 v2 Q em r1 r2 h
  unfold cmpI at h
  split at h
  · cases r1; cases r2
    exact ⟨_, _, rfl, rfl, outR.ok (R := rE K G) h em .bl⟩
  · exact h.elim
def ltI (i j : Int) : Bool := decide (i < j)
def leI (i j : Int) : Bool := decide (i ≤ j)
def gtI (i j : Int) : Bool := decide (j < i)
def geI (i j : Int) : Bool := decide (j ≤ i)
def D.isN : D → Bool
  | .non => true
  | _ => false
theorem RV.isN {K : PySem.W.Frag} {H : Hp} {φ : List Addr} {d : D} {v : V} (r : RV K G H φ d v) : decide (v = .non) = d.isN := by
  cases r <;> first | rfl | exact decide_eq_false (fun z => nomatch z)
def isD (x y : D) (S : Sto) : Res D := match y with
  | .non => .ok (.bl x.isN) S
  | _ => .stuck
def isNotD (x y : D) (S : Sto) : Res D := match y with
  | .non => .ok (.bl (!x.isN)) S
  | _ => .stuck
theorem s_is {K : PySem.W.Frag} : OpS K G W isD (fun x y H Q => y = .non ∧ Q (.bl (decide (x = .non))) H) := by
  intro φ S σ H d1 d2 v1 v2 Q em r1 r2 h
  unfold isD at h
  split at h
  · cases r2
    exact ⟨rfl, by rw [r1.isN]; exact outR.ok (R := rE K G) h em .bl⟩
  · exact h.elim
theorem s_isNot {K : PySem.W.Frag} : OpS K G W isNotD (fun x y H Q => y = .non ∧ Q (.bl (!decide (x = .non))) H) := by
  intro φ S σ H d1 d2 v1 v2 Q em r1 r2 h
  unfold isNotD at h
  split at h
  · cases r2
    exact ⟨rfl, by rw [r1.isN]; exact outR.ok (R := rE K G) h em .bl⟩
  · exact h.elim
/-- plain data as the library's == reads it -/
def D.scalar : D → Bool
  | .non => true | .bl _ => true | .int _ => true | .str _ => true | _ => false
def pd (S : Sto) : Nat → D → Option PyData
  | _, .non => some .none
  | _, .bl b => some (.bool b)
  | _, .int i => some (.int i)
  | _, .str x => some (.str x)
  | n + 1, .tup xs => (optAll (pd S n) xs).map .tuple
  | n + 1, .vl xs => (optAll (pd S n) xs).map .list
  | n + 1, .cl xs => (optAll (pd S n) xs).map .list
  | n + 1, .loc l => match S[l]? with
    | some (.lst xs) => (optAll (pd S n) xs).map .list
    | _ => none
  | _, _ => none
theorem dp_all {K : PySem.W.Frag} {H : Hp} {φ : List Addr} {f : D → Option PyData} (ih : ∀ d v p, RV K G H φ d v → f d = some p → Dp K H v p) : ∀ {ds : List D} {vs : List V} {ps : List PyData}, RVs K G H φ ds vs → optAll f ds = some ps → DpAll K H vs ps
  | _, _, _, .nil, e => by cases e; exact .nil
  | _, _, _, .cons (d := d) (ds := ds) a b, e => by
    unfold optAll at e
    split at e
    · rename_i y ys e1 e2
      cases e
      exact .cons (ih _ _ _ a e1) (dp_all ih b e2)
    · cases e
theorem pd_dp {K : PySem.W.Frag} {φ : List Addr} {S : Sto} {H : Hp} (em : Emb K G φ S H) : ∀ (n : Nat) (d : D) (v : V) (p : PyData), RV K G H φ d v → pd S n d = some p → Dp K H v p := by
  intro n
  induction n with
  | zero =>
    intro d v p r e
    cases r with
    | non => unfold pd at e; cases e; exact .non
    | bl => unfold pd at e; cases e; exact .bl _
    | int => unfold pd at e; cases e; exact .int _
    | str => unfold pd at e; cases e; exact .str _
    | _ => unfold pd at e; cases e
  | succ n ih =>
    intro d v p r e
    cases r with
    | non => unfold pd at e; cases e; exact .non
    | bl => unfold pd at e; cases e; exact .bl _
    | int => unfold pd at e; cases e; exact .int _
    | str => unfold pd at e; cases e; exact .str _
    | tup s q =>
      unfold pd at e
      obtain ⟨ps, e1, rfl⟩ := Option.map_eq_some_iff.mp e
      exact .tup s (dp_all ih q e1)
    | vl n s q hp =>
      unfold pd at e
      obtain ⟨ps, e1, rfl⟩ := Option.map_eq_some_iff.mp e
      exact .lst (.inl (.inl s)) (dp_all ih q e1)
    | cl s q hp =>
      unfold pd at e
      obtain ⟨ps, e1, rfl⟩ := Option.map_eq_some_iff.mp e
      exact .lst s.sql (dp_all ih q e1)
    | vd => unfold pd at e; cases e
    | vo => unfold pd at e; cases e
    | xv0 => unfold pd at e; cases e
    | xv1 => unfold pd at e; cases e
    | loc q =>
      unfold pd at e
      split at e
      · rename_i xs es
        obtain ⟨ps, e1, rfl⟩ := Option.map_eq_some_iff.mp e
        obtain ⟨vs, sq, rv⟩ := (em.ob _ _ _ es q).sql
        exact .lst sq (dp_all ih rv e1)
      · cases e
def deepEq (S : Sto) (x y : D) : Option Bool := match pd S 8 x, pd S 8 y with
  | some p, some q => if SeqAt.shaped p = true ∧ SeqAt.shaped q = true then some (PyData.eqv p q) else none
  | _, _ => none
def eqD (S : Sto) (x y : D) : Option Bool := match x, y with
  | .int i, .int j => some (decide (i = j))
  | .str a, .str b => some (decide (a = b))
  | .bl a, .bl b => some (decide (a = b))
  | .non, .non => some true
  | .non, .int _ => some false
  | .int _, .non => some false
  | .non, .str _ => some false
  | .str _, .non => some false
  | .non, .bl _ => some false
  | .bl _, .non => some false
  | .int _, .str _ => some false
  | .str _, .int _ => some false
  | .bl _, .str _ => some false
  | .str _, .bl _ => some false
  | x, y => deepEq S x y
theorem eqD_ok {K : PySem.W.Frag} {φ : List Addr} {S : Sto} {H : Hp} (em : Emb K G φ S H) {x y : D} {v u : V} {b : Bool} (r1 : RV K G H φ x v) (r2 : RV K G H φ y u) (h : eqD S x y = some b) :
    (scal v u = true ∧ decide (v = u) = b) ∨ ∃ p q, Dp K H v p ∧ Dp K H u q ∧ SeqAt.shaped p = true ∧ SeqAt.shaped q = true ∧ PyData.eqv p q = b := by
  have deep : deepEq S x y = some b → ∃ p q, Dp K H v p ∧ Dp K H u q ∧ SeqAt.shaped p = true ∧ SeqAt.shaped q = true ∧ PyData.eqv p q = b := by
    intro h
    unfold deepEq at h
    split at h
    · rename_i p q e1 e2
      split at h
      · rename_i hs
        cases h
        exact ⟨p, q, pd_dp em 8 x v p r1 e1, pd_dp em 8 y u q r2 e2, hs.1, hs.2, rfl⟩
      · cases h
    · cases h
  unfold eqD at h
  split at h
  · cases r1; cases r2; cases h; exact .inl ⟨rfl, decide_eq_decide.mpr ⟨fun z => V.int.inj z, fun z => by rw [z]⟩⟩
  · cases r1; cases r2; cases h; exact .inl ⟨rfl, decide_eq_decide.mpr ⟨fun z => V.str.inj z, fun z => by rw [z]⟩⟩
  · cases r1; cases r2; cases h; exact .inl ⟨rfl, decide_eq_decide.mpr ⟨fun z => V.bl.inj z, fun z => by rw [z]⟩⟩
  · cases r1; cases r2; cases h; exact .inl ⟨rfl, rfl⟩
  all_goals first
    | (cases r1; cases r2; cases h; exact .inl ⟨rfl, decide_eq_false (fun z => nomatch z)⟩)
    | exact .inr (deep h)
def eqR (x y : D) (S : Sto) : Res D := match eqD S x y with
  | some b => .ok (.bl b) S
  | none => .stuck
def neR (x y : D) (S : Sto) : Res D := match eqD S x y with
  | some b => .ok (.bl (!b)) S
  | none => .stuck
def rEqU (K : PySem.W.Frag) : R2 := fun x y H Q => rEq x y H Q ∨ rEqD K x y H Q
def rNeU (K : PySem.W.Frag) : R2 := fun x y H Q => rNe x y H Q ∨ rNeD K x y H Q
theorem op_eqU (d : DX X G W k) : OpR X (compareOp .Eq) (rEqU X.K) := op_eq.or (op_eqD d.hr.units)
theorem op_neU (d : DX X G W k) : OpR X (compareOp .NotEq) (rNeU X.K) := op_ne.or (op_neD d.hr.units)
theorem s_eq {K : PySem.W.Frag} : OpS K G W eqR (rEqU K) := by
  intro φ S σ H d1 d2 v1 v2 Q em r1 r2 h
  unfold eqR at h
  split at h
  · rename_i b e
    have q := outR.ok (R := rE K G) h em .bl
    rcases eqD_ok em r1 r2 e with ⟨h1, h2⟩ | ⟨p, q', h1, h2, h3, h4, h5⟩
    · exact .inl ⟨h1, by rw [h2]; exact q⟩
    · exact .inr ⟨p, q', h1, h2, h3, h4, by rw [h5]; exact q⟩
  · exact h.elim
theorem s_ne {K : PySem.W.Frag} : OpS K G W neR (rNeU K) := by
  intro φ S σ H d1 d2 v1 v2 Q em r1 r2 h
  unfold neR at h
  split at h
  · rename_i b e
    have q := outR.ok (R := rE K G) h em .bl
    rcases eqD_ok em r1 r2 e with ⟨h1, h2⟩ | ⟨p, q', h1, h2, h3, h4, h5⟩
    · exact .inl ⟨h1, by rw [h2]; exact q⟩
    · exact .inr ⟨p, q', h1, h2, h3, h4, by rw [h5]; exact q⟩
  · exact h.elim
/-! ### is it in: flat things in a list or a tuple -/
def flatD : D → Bool
  | .non => true | .bl _ => true | .int _ => true | .str _ => true | _ => false
/-- list, tuple: the items -/
def items (S : Sto) (d : D) : Option (List D) := match d with
  | .tup xs => some xs
  | d => lstO S d
theorem items_ok {K : PySem.W.Frag} {φ : List Addr} {S : Sto} {H : Hp} (em : Emb K G φ S H) {d : D} {v : V} {xs : List D} (r : RV K G H φ d v) (h : items S d = some xs) : ∃ p vs, v = .ref p ∧ (SqL K H p vs ∨ SqT K H p vs) ∧ RVs K G H φ xs vs := by
  unfold items at h
  split at h
  · cases r with
    | tup s q => cases h; exact ⟨_, _, rfl, .inr s, q⟩
  · obtain ⟨p, vs, e, sq, rv⟩ := lst_ok em r h
    exact ⟨p, vs, e, .inl sq, rv⟩
def eqFlat : D → D → Bool
  | .non, .non => true
  | .bl a, .bl b => a == b
  | .bl a, .int b => (if a then 1 else 0) == b
  | .int a, .bl b => a == (if b then 1 else 0)
  | .int a, .int b => a == b
  | .str a, .str b => a == b
  | _, _ => false
theorem flat_ok {K : PySem.W.Frag} {H : Hp} {φ : List Addr} {d : D} {v : V} (r : RV K G H φ d v) (f : flatD d = true) : flatV v = true := by
  cases r <;> first | rfl | exact absurd (show false = true from f) Bool.false_ne_true
theorem flat_all {K : PySem.W.Frag} {H : Hp} {φ : List Addr} : ∀ {ds : List D} {vs : List V}, RVs K G H φ ds vs → ds.all flatD = true → vs.all flatV = true
  | _, _, .nil, _ => rfl
  | _, _, .cons a b, f => by
    rw [List.all_cons, Bool.and_eq_true] at f ⊢
    exact ⟨flat_ok a f.1, flat_all b f.2⟩
theorem eqFlat_ok {K : PySem.W.Frag} {H : Hp} {φ : List Addr} {d e : D} {v u : V} (r : RV K G H φ d v) (q : RV K G H φ e u) (f : flatD d = true) (g : flatD e = true) : eqV v u = eqFlat d e := by
  cases r <;> cases q <;> first | rfl | exact absurd (show false = true from f) Bool.false_ne_true | exact absurd (show false = true from g) Bool.false_ne_true
def inFlat (x : D) (xs : List D) : Bool := xs.any fun y => eqFlat y x
theorem inFlat_ok {K : PySem.W.Frag} {H : Hp} {φ : List Addr} {x : D} {v : V} (r : RV K G H φ x v) (f : flatD x = true) : ∀ {ds : List D} {vs : List V}, RVs K G H φ ds vs → ds.all flatD = true → inV v vs = inFlat x ds
  | _, _, .nil, _ => rfl
  | _, _, .cons a b, g => by
    rw [List.all_cons, Bool.and_eq_true] at g
    have ih := inFlat_ok r f b g.2
    unfold inV at ih ⊢
    unfold inFlat at ih ⊢
    rw [List.any_cons, List.any_cons, ih, eqFlat_ok a r g.1 f]
end
end MP

set_option Elab.async false
set_option linter.all false
set_option maxRecDepth 100000
set_option maxHeartbeats 2000000
namespace MP
open PySem L2
section
variable {X : Cx} {G : Ga} {W : WX} {k : Nat}
/-! ### in -/
def inQ (neg : Bool) (x y : D) (S : Sto) : Res D := match items S y with
  | some ys => if flatD x = true ∧ ys.all flatD = true then .ok (.bl (if neg then !inFlat x ys else inFlat x ys)) S else .stuck
  | none => .stuck
theorem s_inQ {K : PySem.W.Frag} {neg : Bool} : OpS K G W (inQ neg) (rIn K neg) := by
  intro φ S σ H d1 d2 v1 v2 Q em r1 r2 h
  unfold inQ at h
  split at h
  · rename_i ys e
    split at h
    · rename_i hf
      obtain ⟨p, vs, rfl, hs, rv⟩ := items_ok em r2 e
      refine ⟨p, vs, rfl, hs, flat_ok r1 hf.1, flat_all rv hf.2, ?_⟩
      rw [inFlat_ok r1 hf.1 rv hf.2]
      exact outR.ok (R := rE K G) h em .bl
    · exact h.elim
  · exact h.elim
/-! ### fields -/
def getF (f : Fl) (d : D) (S : Sto) : Res D := match d with
  | .loc l => match S[l]? with
    | some (.ins _ fs) => match fs.lookup f with
      | some x => .ok x S
      | none => .stuck
    | _ => .stuck
  | .vo _ fs xs => match (fs.zip xs).lookup f with
    | some x => .ok x S
    | none => .stuck
  | _ => .stuck
def mFld (f : Fl) (m : MEx) : MEx := fun ρ S => (m ρ S).bind (getF f)
def Fl.un (s : Str) : Option Fl :=
  if s = "many" then some .many else if s = "cells" then some .cells else if s = "inside" then some .inside else if s = "row" then some .row else if s = "last_words" then some .last_words
  else if s = "named" then some .named else if s = "made" then some .made else if s = "line" then some .line else if s = "heap" then some .heap else if s = "part" then some .part
  else if s = "to_go" then some .to_go else if s = "gone" then some .gone else if s = "rooms" then some .rooms else if s = "memory" then some .memory else if s = "marking" then some .marking
  else if s = "fence" then some .fence else if s = "rows" then some .rows else if s = "phase" then some .phase else if s = "room" then some .room else none
theorem Fl.un_nm (f : Fl) : Fl.un f.nm = some f := by cases f <;> decide +kernel
theorem Fl.nm_inj {f g : Fl} (h : f.nm = g.nm) : f = g := by
  have e := congrArg Fl.un h
  rw [Fl.un_nm, Fl.un_nm] at e
  exact Option.some.inj e
theorem RKs.look {K : PySem.W.Frag} {H : Hp} {φ : List Addr} {fs : List (Fl × D)} {vs : List (Str × V)} (r : RKs K G H φ Fl.nm fs vs) {f : Fl} {d : D} (h : fs.lookup f = some d) : ∃ v, vs.lookup f.nm = some v ∧ RV K G H φ d v := by
  induction r with
  | nil => cases h
  | @cons g e v ds ws a b ih =>
    by_cases hg : f = g
    · subst hg
      rw [List.lookup_cons_self] at h
      cases h
      exact ⟨v, List.lookup_cons_self, a⟩
    · have h1 : (f == g) = false := by simpa using hg
      have h2 : (f.nm == g.nm) = false := by
        cases q : (f.nm == g.nm) with
        | false => rfl
        | true => exact absurd (Fl.nm_inj (eq_of_beq q)) hg
      rw [List.lookup_cons, h1] at h
      obtain ⟨v', e1, r1⟩ := ih h
      exact ⟨v', by rw [List.lookup_cons, h2]; exact e1, r1⟩
theorem RKs.nolook {K : PySem.W.Frag} {H : Hp} {φ : List Addr} {fs : List (Fl × D)} {vs : List (Str × V)} (r : RKs K G H φ Fl.nm fs vs) {m : Str} (h : ∀ f d, (f, d) ∈ fs → f.nm ≠ m) : vs.lookup m = none := by
  induction r with
  | nil => rfl
  | @cons g e v ds ws a b ih =>
    have h2 : (m == g.nm) = false := by
      cases q : (m == g.nm) with
      | false => rfl
      | true => exact absurd (eq_of_beq q).symm (h g e List.mem_cons_self)
    rw [List.lookup_cons, h2]
    exact ih fun f d hm => h f d (List.mem_cons_of_mem _ hm)
theorem Fl.look_mem {f : Fl} {d : D} : ∀ {fs : List (Fl × D)}, fs.lookup f = some d → (f, d) ∈ fs
  | [], h => by cases h
  | (g, e) :: fs, h => by
    by_cases hg : f = g
    · subst hg; rw [List.lookup_cons_self] at h; cases h; exact List.mem_cons_self
    · rw [List.lookup_cons, show (f == g) = false by simpa using hg] at h
      exact List.mem_cons_of_mem _ (Fl.look_mem h)
theorem d_fld {e : Expr} {m : MEx} {pos : Pos} {nm : Str} (f : Fl) (g : Gok X.K G) (he : PE X e (wpE X.K G W m)) (hf : f.nm = nm := by rfl) (hb : attributeBase e nm X.env (eval e X.env) = eval e X.env := by rfl) : PE X (.Attribute e nm pos) (wpE X.K G W (mFld f m)) := by
  subst hf
  refine pe_conv (pe_fld he hb) ?_
  rintro σ H Q ⟨φ, ρ, S, em, rs, h⟩
  refine ⟨φ, ρ, S, em, rs, h.bind fun d S1 φ1 v H1 x em1 rv h1 => ?_⟩
  unfold getF at h1
  split at h1
  · split at h1
    · rename_i l c fs es
      split at h1
      · rename_i y ey
        obtain ⟨a, rfl, ha, ro⟩ := em1.at_loc es rv
        cases ro with
        | ins e1 rk hh hall =>
          obtain ⟨w, ew, rw'⟩ := rk.look ey
          have hok : okF c f = true := List.all_eq_true.mp hall _ (Fl.look_mem ey)
          exact ⟨a, _, _, _, w, rfl, e1, g.cls c hh, g.noat c f hh hok, ew, outR.ok (R := rE X.K G) h1 em1 rw'⟩
      · exact h1.elim
    · exact h1.elim
  · rename_i c fs xs
    split at h1
    · rename_i y ey
      cases rv with
      | @vo _ _ _ vs a dx na e1 hh e r hall hp =>
        obtain ⟨w, ew, rw'⟩ := (RKs.zip e r).look ey
        have hok : okF c f = true := List.all_eq_true.mp hall _ (List.of_mem_zip (Fl.look_mem ey)).1
        exact ⟨a, _, _, _, w, rfl, e1, g.cls c hh, g.noat c f hh hok, ew, outR.ok (R := rE X.K G) h1 em1 rw'⟩
    · exact h1.elim
  · exact h1.elim
def putFl (f : Fl) (d : D) : List (Fl × D) → List (Fl × D)
  | [] => [(f, d)]
  | (g, e) :: r => if g = f then (g, d) :: r else (g, e) :: putFl f d r
theorem RKs.put {K : PySem.W.Frag} {H : Hp} {φ : List Addr} {fs : List (Fl × D)} {vs : List (Str × V)} (r : RKs K G H φ Fl.nm fs vs) {f : Fl} {d : D} {v : V} (q : RV K G H φ d v) : RKs K G H φ Fl.nm (putFl f d fs) (putF f.nm v vs) := by
  induction r with
  | nil => exact .cons q .nil
  | @cons g e w ds ws a b ih =>
    unfold putFl putF
    by_cases hg : g = f
    · subst hg
      rw [if_pos rfl, if_pos rfl]
      exact .cons q b
    · rw [if_neg hg, if_neg (fun z => hg (Fl.nm_inj z))]
      exact .cons a ih
theorem putFl_all {c : Cl} {f : Fl} {d : D} (hf : okF c f = true) : ∀ {fs : List (Fl × D)}, fs.all (fun f => okF c f.1) = true → (putFl f d fs).all (fun f => okF c f.1) = true
  | [], _ => by unfold putFl; simp [hf]
  | (g, e) :: r, h => by
    rw [List.all_cons, Bool.and_eq_true] at h
    unfold putFl
    by_cases hg : g = f
    · rw [if_pos hg, List.all_cons, Bool.and_eq_true]; exact h
    · rw [if_neg hg, List.all_cons, Bool.and_eq_true]; exact ⟨h.1, putFl_all hf h.2⟩
def setF (f : Fl) (o v : D) (S : Sto) : Option Sto := match o with
  | .loc l => match S[l]? with
    | some (.ins c fs) => if okF c f = true ∧ fs.length < 1000 then some (S.set l (.ins c (putFl f v fs))) else none
    | _ => none
  | _ => none
def nxO (ρ : Rho) : Option Sto → SR
  | some S => .nx ρ S
  | none => .stuck
def sFldS (f : Fl) (mo mv : MEx) : MSt := fun ρ S => (mv ρ S).st ρ fun v S1 => (mo ρ S1).st ρ fun o S2 => nxO ρ (setF f o v S2)
theorem s_fld {o value : Expr} {pos pos' : Pos} {nm : Str} {mo mv : MEx} (f : Fl) (g : Gok X.K G) (ho : PE X o (wpE X.K G W mo)) (hv : PE X value (wpE X.K G W mv)) (hf : f.nm = nm := by rfl)
    (hs : swapsWith value (some (.Attribute o nm pos')) pos.line X.env = pure false := by rfl) : PS X (.Assign [.Attribute o nm pos'] value pos) (wpS X.K G W (sFldS f mo mv)) := by
  subst hf
  refine ps_conv (ps_fld ho hv hs) ?_
  rintro E σ H ⟨φ, ρ, S, em, rs, h⟩
  refine ⟨φ, ρ, S, em, rs, outR.st rs h fun v S1 φ1 y H1 x em1 rv h1 => ?_⟩
  refine ⟨φ1, ρ, S1, em1, rs.ext x, outR.st (rs.ext x) h1 fun o' S2 φ2 y2 H2 x2 em2 rv2 h2 => ?_⟩
  unfold setF at h2
  split at h2
  · split at h2
    · rename_i l c fs es
      split at h2
      · rename_i hc
        obtain ⟨a, rfl, ha, ro⟩ := em2.at_loc es rv2
        cases ro with
        | @ins _ _ ws _ dx e1 rk hh hall =>
          refine ⟨a, _, _, _, rfl, e1, g.cls c hh, g.noat c f hh hc.1, by rw [← rk.length]; exact hc.2, ?_⟩
          have n1 : ∀ xs, HO.ins (G.cl c) dx ws ≠ .tup xs := fun _ z => nomatch z
          have n2 : ∀ ob w, HO.ins (G.cl c) dx ws ≠ .frz ob w := fun _ _ z => nomatch z
          have xa : Ext φ2 H2 φ2 (upd H2 a (.ins (G.cl c) dx (putF f.nm y ws))) := .at ha e1 n1 n2
          have em3 := em2.set (o := .ins c (putFl f v fs)) (ho := .ins (G.cl c) dx (putF f.nm y ws)) es ha e1 n1 n2 (.ins upd_same (rk.put (RV.ext x2 rv) |>.ext xa) hh (putFl_all hc.1 hall))
          exact h2 φ2 _ _ xa em3 ((rs.ext x).ext (x2.trans xa))
      · exact h2.elim
    · exact h2.elim
  · exact h2.elim
/-! ### o[i] -/
def ixO (xs : Option (List D)) (j : Int) (S : Sto) : Res D := match xs with
  | some xs => match atI xs j with
    | some x => .ok x S
    | none => .stuck
  | none => .stuck
def getI (o i : D) (S : Sto) : Res D := match o, i with
  | .tup xs, .int j => match atI xs j with
    | some x => .ok x S
    | none => .stuck
  | .str z, .int j => if z.length ≤ sizeLine then match atI z.cps.toList j with
    | some c => .ok (.str ⟨#[c]⟩) S
    | none => .stuck
    else .stuck
  | o, .int j => ixO (lstO S o) j S
  | _, _ => .stuck
theorem RVs.atI {K : PySem.W.Frag} {H : Hp} {φ : List Addr} {xs : List D} {vs : List V} (r : RVs K G H φ xs vs) {j : Int} {d : D} (h : L2.atI xs j = some d) : ∃ v, L2.atI vs j = some v ∧ RV K G H φ d v := by
  unfold L2.atI at h ⊢
  rw [← RVs.length r]
  obtain ⟨i, e1, e2⟩ := Option.bind_eq_some_iff.mp h
  obtain ⟨v, e3, r3⟩ := RVs.get r e2
  exact ⟨v, by rw [e1]; exact e3, r3⟩
theorem s_getI {K : PySem.W.Frag} : OpS K G W getI (rIx K) := by
  intro φ S σ H d1 d2 v1 v2 Q em r1 r2 h
  unfold getI at h
  split at h
  · split at h
    · rename_i x e
      cases r2
      cases r1 with
      | tup s q =>
        obtain ⟨v, ev, rv⟩ := RVs.atI q e
        exact .inr (.inl ⟨_, _, _, v, rfl, rfl, s, ev, outR.ok (R := rE K G) h em rv⟩)
    · exact h.elim
  · split at h
    · rename_i hl
      split at h
      · rename_i c e
        cases r1; cases r2
        exact .inr (.inr ⟨_, _, c, rfl, rfl, hl, e, outR.ok (R := rE K G) h em .str⟩)
      · exact h.elim
    · exact h.elim
  · unfold ixO at h
    split at h
    · rename_i xs es
      split at h
      · rename_i x e
        cases r2
        obtain ⟨a, vs, rfl, sq, rvs⟩ := lst_ok em r1 es
        obtain ⟨v, ev, rv⟩ := RVs.atI rvs e
        exact .inl ⟨_, _, _, v, rfl, rfl, sq, ev, outR.ok (R := rE K G) h em rv⟩
      · exact h.elim
    · exact h.elim
  · exact h.elim
theorem d_ix {a b : Expr} {ma mb : MEx} {pos : Pos} (ha : PE X a (wpE X.K G W ma)) (hb : PE X b (wpE X.K G W mb)) (hs : PlainIx b := by exact fun _ _ => rfl) : PE X (.Subscript a b pos) (wpE X.K G W (mOp2 getI ma mb)) :=
  pe_conv (pe_ix ix_seq ha hb hs) (op2 s_getI)
/-- o[i] = v, a list -/
def setI (o i v : D) (S : Sto) : Option Sto := match o, i with
  | .loc l, .int j => match S[l]? with
    | some (.lst xs) => match ixN xs.length j with
      | some n => some (S.set l (.lst (xs.set n v)))
      | none => none
    | _ => none
  | _, _ => none
def sSetL (mo mi mv : MEx) : MSt := fun ρ S => (mv ρ S).st ρ fun v S1 => (mo ρ S1).st ρ fun o S2 => (mi ρ S2).st ρ fun i S3 => nxO ρ (setI o i v S3)
theorem s_setL {o i value : Expr} {mo mi mv : MEx} {pos pos' : Pos} (ho : PE X o (wpE X.K G W mo)) (hi : PE X i (wpE X.K G W mi)) (hv : PE X value (wpE X.K G W mv))
    (ha : ∀ v, assign (.Subscript o i pos') X.env v = (do
      let ov ← holding [v] (eval o X.env)
      let iv ← holding [v, ov] (eval i X.env)
      standAt pos'
      holding [v, ov, iv] (setItem ov iv v)
      release [v, ov, iv] []) := by intro _; rfl)
    (hs : swapsWithSole [.Subscript o i pos'] value pos.line X.env = pure false := by rfl) (hw : swappedStores [.Subscript o i pos'] value X.env = pure none := by rfl)
    (h1 : (assignEach [.Subscript o i pos'] X.env).map (·.2) = [assign (.Subscript o i pos') X.env] := by rfl) : PS X (.Assign [.Subscript o i pos'] value pos) (wpS X.K G W (sSetL mo mi mv)) := by
  refine ps_conv (ps_asg hv (pg_sub ho hi set_list ha) hs hw h1) ?_
  rintro E σ H ⟨φ, ρ, S, em, rs, h⟩
  refine ⟨φ, ρ, S, em, rs, outR.st rs h fun v S1 φ1 y H1 x em1 rv h1 => ?_⟩
  refine ⟨φ1, ρ, S1, em1, rs.ext x, outR.st (rs.ext x) h1 fun o' S2 φ2 y2 H2 x2 em2 rv2 h2 => ?_⟩
  refine ⟨φ2, ρ, S2, em2, (rs.ext x).ext x2, outR.st ((rs.ext x).ext x2) h2 fun i' S3 φ3 y3 H3 x3 em3 rv3 h3 => ?_⟩
  unfold setI at h3
  split at h3
  · split at h3
    · rename_i l j xs es
      split at h3
      · rename_i n en
        obtain ⟨a, rfl, ha, ro⟩ := em3.at_loc es (RV.ext x3 rv2)
        obtain ⟨vs, e1, rvs⟩ := ro.lstM
        cases rv3
        refine ⟨a, vs, _, n, rfl, rfl, e1, by rw [← RVs.length rvs]; exact en, ?_⟩
        have n1 : ∀ xs, HO.lst vs ≠ .tup xs := fun _ z => nomatch z
        have n2 : ∀ ob w, HO.lst vs ≠ .frz ob w := fun _ _ z => nomatch z
        have xa : Ext φ3 H3 φ3 (upd H3 a (.lst (vs.set n y))) := .at ha e1 n1 n2
        have em4 := em3.set (o := .lst (xs.set n v)) (ho := .lst (vs.set n y)) es ha e1 n1 n2 (.lst upd_same (RVs.ext xa (RVs.set (RV.ext (x2.trans x3) rv) n rvs)))
        exact h3 φ3 _ _ xa em4 (((rs.ext x).ext x2).ext (x3.trans xa))
      · exact h3.elim
    · exact h3.elim
  · exact h3.elim
/-! ### slices -/
def optI (d : D) (S : Sto) : Res (Option Int) := match d with
  | .int i => .ok (some i) S
  | _ => .stuck
abbrev MPt := Rho → Sto → Res (Option Int)
def ptNone : MPt := fun _ S => .ok none S
def ptSome (m : MEx) : MPt := fun ρ S => (m ρ S).bind optI
def rO : Hp → List Addr → Option Int → Option Int → Prop := fun _ _ a b => a = b
theorem po_conv {e : Option Expr} {t t' : TO} (h : PO X e t) (hh : ∀ σ H Q, t' σ H Q → t σ H Q) : PO X e t' := ⟨fun pins s σ H Q I ht => h.run pins s σ H Q I (hh _ _ _ ht)⟩
theorem p_none : PO X none (wp X.K G W rO ptNone) := po_conv po_none fun σ H Q ⟨φ, ρ, S, em, rs, h⟩ => outR.ok (R := rO) h em rfl
theorem p_some {e : Expr} {m : MEx} (h : PE X e (wpE X.K G W m)) : PO X (some e) (wp X.K G W rO (ptSome m)) := by
  refine po_conv (po_some h) ?_
  rintro σ H Q ⟨φ, ρ, S, em, rs, h⟩
  refine ⟨φ, ρ, S, em, rs, h.bind fun d S1 φ1 v H1 x em1 rv h1 => ?_⟩
  cases rv with
  | int => exact ⟨_, rfl, outR.ok (R := rO) h1 em1 rfl⟩
  | _ => exact h1.elim
def cutD (xs : List D) (lo hi : Option Int) : List D := (xs.drop (HT.sIx xs.length 0 lo)).take (HT.sIx xs.length xs.length hi - HT.sIx xs.length 0 lo)
end
end MP

set_option Elab.async false
set_option linter.all false
set_option maxRecDepth 100000
set_option maxHeartbeats 2000000
namespace MP
open PySem L2
section
variable {X : Cx} {G : Ga} {W : WX} {k : Nat}
def slO (tr : Bool) (xs : Option (List D)) (lo hi : Option Int) (S : Sto) : Res D := match xs with
  | some xs => newL tr (cutD xs lo hi) S
  | none => .stuck
def slD' (tr : Bool) (o : D) (lo hi : Option Int) (S : Sto) : Res D := match o with
  | .tup xs => if HT.sIx xs.length 0 lo = 0 ∧ HT.sIx xs.length xs.length hi = xs.length then .stuck else .ok (.tup (cutD xs lo hi)) S
  | .str z => if z.length ≤ sizeLine then .ok (.str (cutS z lo hi)) S else .stuck
  | o => slO tr (lstO S o) lo hi S
def mSl' (tr : Bool) (mo : MEx) (ml mh : MPt) : MEx := fun ρ S => (mo ρ S).bind fun o S1 => (ml ρ S1).bind fun lo S2 => (mh ρ S2).bind fun hi S3 => slD' tr o lo hi S3
theorem RVs.cut {K : PySem.W.Frag} {H : Hp} {φ : List Addr} {xs : List D} {vs : List V} (r : RVs K G H φ xs vs) (lo hi : Option Int) : RVs K G H φ (cutD xs lo hi) (cutV vs lo hi) := by
  unfold cutD cutV
  rw [← RVs.length r]
  exact RVs.take _ (RVs.drop _ r)
theorem d_sl {tr : Bool} {e : Expr} {lo hi : Option Expr} {m : MEx} {ml mh : MPt} {p2 pos : Pos} (he : PE X e (wpE X.K G W m)) (hl : PO X lo (wp X.K G W rO ml)) (hh : PO X hi (wp X.K G W rO mh)) : PE X (.Subscript e (.Slice lo hi none p2) pos) (wpE X.K G W (mSl' tr m ml mh)) := by
  refine pe_conv (pe_slice (sl_list.or (sl_tup.or sl_str)) he hl hh) ?_
  rintro σ H Q ⟨φ, ρ, S, em, rs, h⟩
  refine ⟨φ, ρ, S, em, rs, h.bind fun o S1 φ1 v H1 x em1 rv h1 => ?_⟩
  refine ⟨φ1, ρ, S1, em1, rs.ext x, h1.bind fun l S2 φ2 l' H2 x2 em2 rl h2 => ?_⟩
  refine ⟨φ2, ρ, S2, em2, (rs.ext x).ext x2, h2.bind fun u S3 φ3 u' H3 x3 em3 ru h3 => ?_⟩
  cases (show l = l' from rl)
  cases (show u = u' from ru)
  have rv3 := RV.ext (x2.trans x3) rv
  unfold slD' at h3
  split at h3
  · split at h3
    · exact h3.elim
    · rename_i hn
      cases rv3 with
      | tup s q =>
        refine .inr (.inl ⟨_, _, rfl, s, by rw [← RVs.length q]; exact hn, fun p hp => ?_⟩)
        exact h3 φ3 _ _ (.other hp) (em3.other hp) (.tup (.of upd_same) (RVs.ext (.other hp) (RVs.cut q l u)))
  · split at h3
    · rename_i hl
      cases rv3
      exact .inr (.inr ⟨_, rfl, hl, outR.ok (R := rE X.K G) h3 em3 .str⟩)
    · exact h3.elim
  · unfold slO at h3
    split at h3
    · rename_i xs es
      obtain ⟨a, vs, rfl, sq, rvs⟩ := lst_ok em3 rv3 es
      exact .inl ⟨a, vs, rfl, sq, fun p hp => h3.newL em3 (RVs.cut rvs l u) hp⟩
    · exact h3.elim

/-! ### what a def promises -/
def SpM (K : PySem.W.Frag) (G : Ga) (mf : MFn) (n : Nat) : Sp := fun vs H Q E => ∃ φ S ds, Emb K G φ S H ∧ RVs K G H φ ds vs ∧ ds.length = n ∧ outR K G (fun c d _ H => E c d H) (rE K G) (mf ds S) φ [] H Q
theorem SpM.len {K : PySem.W.Frag} {mf : MFn} {n : Nat} {vs : List V} {H : Hp} {Q : VK} {E : XK} (h : SpM K G mf n vs H Q E) : vs.length = n := by
  obtain ⟨φ, S, ds, em, rv, hl, _⟩ := h
  rw [← RVs.length rv]
  exact hl
theorem outR.resig {K : PySem.W.Frag} {W' : WX} {r : Res D} {φ : List Addr} {σ σ' : St} {H : Hp} {Q : VK} (hw : ∀ c d H, W c d σ H → W' c d σ' H) (h : outR K G W (rE K G) r φ σ H Q) : outR K G W' (rE K G) r φ σ' H Q := by
  cases r with
  | ok a S => exact h
  | exc e S =>
    intro φ' H' x em
    have q := h φ' H' x em
    unfold XW at q ⊢
    cases hv : e.v with
    | none => rw [hv] at q; exact hw _ _ _ q
    | some y => rw [hv] at q; exact fun d v h1 h2 => hw _ _ _ (q d v h1 h2)
  | stuck => exact h
/-- the body's end as a def's -/
def SR.fn : SR → Res D
  | .nx _ S => .ok .non S
  | .rt d S => .ok d S
  | .xc e _ S => .exc e S
  | _ => .stuck
def fnB (N : Nat) (body : MSt) : MFn := fun ds S => (body (ds.map some ++ List.replicate (N - ds.length) none) S).fn
theorem rs_start {K : PySem.W.Frag} {φ : List Addr} {H : Hp} {N : List Str} {ds : List D} {vs : List V} (r : RVs K G H φ ds vs) : RS K G φ (ds.map some ++ List.replicate (N.length - ds.length) none) (L2.start N vs) H := by
  have hl := RVs.length r
  unfold L2.start
  refine ⟨by simp [hl], fun i d e => ?_⟩
  by_cases hi : i < ds.length
  · rw [List.getElem?_append_left (by simpa using hi), List.getElem?_map] at e
    obtain ⟨d', e1, e2⟩ := Option.map_eq_some_iff.mp e
    cases e2
    obtain ⟨v, e3, r3⟩ := RVs.get r e1
    exact ⟨v, by rw [List.getElem?_append_left (by rw [List.length_map, ← hl]; exact hi), List.getElem?_map, e3]; rfl, r3⟩
  · rw [List.getElem?_append_right (by simpa using hi), List.getElem?_replicate] at e
    split at e
    · cases e
    · cases e
section
variable {P : Program} {w : World} {K : PySem.W.Frag} {mg : Str → Option Value} {base : Heap}
/-- THE RULE for a def -/
theorem mk_fn {x qual : Str} {st : Stmt} {f : Addr} {fd : FuncData} {N ps : List Str} {k : Nat} {m : MSt} (F : Fun K x qual st f fd) (S : FnScope N ps (defScope st))
    (hbody : ∀ (cdv : Value) (A : Around) (outer : List Env) (s : Shared) (H : Hp) (E : XK),
      DX (cxOf (L2.CX P w) P w K mg base N qual (defScope st) f cdv A outer s H E) G (fun c d _ H => E c d H) k →
      PSs (cxOf (L2.CX P w) P w K mg base N qual (defScope st) f cdv A outer s H E) (defBody st) (wpS K G (fun c d _ H => E c d H) m)) :
    FnOk P w K mg base (L2.CX P w) (k + 1) f fd ps (SpM K G (fnB N.length m) ps.length) := by
  refine F.okX S (fun vs H Q E h => h.len) fun cdv A outer s H vs Q E hr h => ?_
  refine ⟨_, hbody cdv A outer s H E ⟨rfl, takes_of rfl rfl rfl rfl, passes_of rfl, hr, S.nd⟩, ?_⟩
  obtain ⟨φ, S0, ds, em, rv, hl, h⟩ := h
  refine ⟨φ, _, S0, em, rs_start rv, ?_⟩
  unfold fnB at h
  cases q : m (ds.map some ++ List.replicate (N.length - ds.length) none) S0 with
  | nx ρ S' => rw [q] at h; exact fun φ' σ' H' x em' rs' => h φ' .non H' x em' .non
  | rt d S' => rw [q] at h; exact fun φ' v H' x em' rv' => h φ' v H' x em' rv'
  | bk ρ S' => rw [q] at h; exact h.elim
  | ct ρ S' => rw [q] at h; exact h.elim
  | xc e ρ S' =>
    rw [q] at h
    intro φ' σ' H' x em' rs'
    have z := h φ' H' x em'
    unfold XW at z ⊢
    cases hv : e.v with
    | none => rw [hv] at z; exact z
    | some y => rw [hv] at z; exact z
  | stuck => rw [q] at h; exact h.elim
end
/-- how a def ends: 0 as it is, 1 what it made is left out and its value frozen, 2 a new list or dict is kept -/
noncomputable def fnZ (md : Nat) (mf : MFn) : MFn := fun ds S => match md with
  | 0 => mf ds S
  | 1 => exitR false S (mf ds S)
  | _ => exitR true S (mf ds S)
theorem SpM.exit {K : PySem.W.Frag} {md : Nat} {mf : MFn} {n : Nat} {vs : List V} {H : Hp} {Q : VK} {E : XK} (h : SpM K G (fnZ md mf) n vs H Q E) : SpM K G mf n vs H Q E := by
  obtain ⟨φ, S, ds, em, rv, hl, h⟩ := h
  refine ⟨φ, S, ds, em, rv, hl, ?_⟩
  unfold fnZ at h
  split at h
  · exact h
  · exact outR.exit em h
  · exact outR.exit em h
section
variable {P : Program} {w : World} {K : PySem.W.Frag} {mg : Str → Option Value} {base : Heap}
theorem mk_fnZ {x qual : Str} {st : Stmt} {f : Addr} {fd : FuncData} {N ps : List Str} {k : Nat} {m : MSt} (md : Nat) (F : Fun K x qual st f fd) (S : FnScope N ps (defScope st))
    (hbody : ∀ (cdv : Value) (A : Around) (outer : List Env) (s : Shared) (H : Hp) (E : XK),
      DX (cxOf (L2.CX P w) P w K mg base N qual (defScope st) f cdv A outer s H E) G (fun c d _ H => E c d H) k →
      PSs (cxOf (L2.CX P w) P w K mg base N qual (defScope st) f cdv A outer s H E) (defBody st) (wpS K G (fun c d _ H => E c d H) m)) :
    FnOk P w K mg base (L2.CX P w) (k + 1) f fd ps (SpM K G (fnZ md (fnB N.length m)) ps.length) :=
  (mk_fn F S hbody).imp fun _ _ _ _ h => h.exit
end
/-- an expression that ends so -/
noncomputable def mEx (kp : Bool) (m : MEx) : MEx := fun ρ S => exitR kp S (m ρ S)
theorem d_ex {e : Expr} {m : MEx} (kp : Bool) (h : PE X e (wpE X.K G W m)) : PE X e (wpE X.K G W (mEx kp m)) := by
  refine pe_conv h ?_
  rintro σ H Q ⟨φ, ρ, S, em, rs, h⟩
  exact ⟨φ, ρ, S, em, rs, outR.exit em h⟩
/-- a def that is called by its name -/
structure FnG (P : Program) (w : World) (K : PySem.W.Frag) (mg : Str → Option Value) (base : Heap) (G : Ga) (k : Nat) (x : Str) (mf : MFn) (n : Nat) : Prop where
  ex : ∃ f fd ps, FnOk P w K mg base (L2.CX P w) k f fd ps (SpM K G mf n) ∧ mg x = some (.ref f) ∧ PySem.W.keepIn K (.ref f) = true ∧ Binds K fd ps []
/-- a method -/
structure FnC (P : Program) (w : World) (K : PySem.W.Frag) (mg : Str → Option Value) (base : Heap) (G : Ga) (k : Nat) (c : Cl) (m : Str) (mf : MFn) (n : Nat) : Prop where
  ex : ∃ f fd ps, FnOk P w K mg base (L2.CX P w) k f fd ps (SpM K G mf n) ∧ Meth K (G.cl c) m f ∧ Binds K fd ps [] ∧ G.has c = true
/-- a class that is called -/
structure FnM (P : Program) (w : World) (K : PySem.W.Frag) (mg : Str → Option Value) (base : Heap) (G : Ga) (k : Nat) (c : Cl) (mf : MFn) (n : Nat) : Prop where
  ex : ∃ f fd ps, FnOk P w K mg base (L2.CX P w) k f fd ps (SpM K G mf n) ∧ Mk K (G.cl c) f ∧ mg c.nm = some (.ref (G.cl c)) ∧ Binds K fd ps [] ∧ G.has c = true
def mCall (n : Nat) (mf : MFn) (ms : MAr) : MEx := fun ρ S => (ms ρ S).bind fun ds S1 => if ds.length = n then mf ds S1 else .stuck
theorem d_call {x : Str} {e : Expr} {es : List Expr} {j n : Nat} {mf : MFn} {ms : MAr} {p pos : Pos} (F : FnG X.prog X.w X.K X.mg X.base G j x mf n) (d : DX X G W k) (ha : PA X (e :: es) (wpA X.K G W ms)) (hj : j ≤ k := by decide) (hg : Gl X x := by rfl) (hdb : (x == ("__debug__" : Str)) = false := by decide)
    (he : starEach (e :: es) X.env = (false, eval e X.env) :: starEach es X.env := by rfl) (hpl : (backTo pos (starEach es X.env)).any (·.1) = false := by rfl) : PE X (.Call (.Name x p) (e :: es) [] pos) (wpE X.K G W (mCall n mf ms)) := by
  obtain ⟨f, fd, ps, hF, hm, hk, hb⟩ := F.ex
  refine pe_conv (pe_callS hF (d.hr.mono hj) hg hm hk hb (fun σ => passAt d.tk σ) ha hdb he hpl) ?_
  rintro σ H Q ⟨φ, ρ, S, em, rs, h⟩
  refine ⟨φ, ρ, S, em, rs, h.bind fun ds S1 φ1 vs H1 x em1 rv h1 => ?_⟩
  split at h1
  · rename_i hl
    exact ⟨φ1, S1, ds, em1, rv, hl, h1.resig fun _ _ _ z => z⟩
  · exact h1.elim
/-- nothing is raised -/
def noX {α : Type} : Res α → Res α
  | .exc _ _ => .stuck
  | r => r
abbrev W0 : WX := fun _ _ _ _ => False
theorem outR.noX {K : PySem.W.Frag} {r : Res D} {φ : List Addr} {σ : St} {H : Hp} {Q : VK} (h : outR K G W (rE K G) (MP.noX r) φ σ H Q) : outR K G (fun c d _ H => E0 c d H) (rE K G) r φ [] H Q := by
  cases r with
  | ok a S => exact h
  | exc e S => exact h.elim
  | stuck => exact h
def mCall0 (mf : MFn) : MEx := fun _ S => noX (mf [] S)
theorem d_call0 {x : Str} {j : Nat} {mf : MFn} {p pos : Pos} (F : FnG X.prog X.w X.K X.mg X.base G j x mf 0) (d : DX X G W k) (hj : j ≤ k := by decide) (hg : Gl X x := by rfl) (hdb : (x == ("__debug__" : Str)) = false := by decide) : PE X (.Call (.Name x p) [] [] pos) (wpE X.K G W (mCall0 mf)) := by
  obtain ⟨f, fd, ps, hF, hm, hk, hb⟩ := F.ex
  refine pe_conv (pe_call0 hF (d.hr.mono hj) hg hm hk hb .nil passL hdb) ?_
  rintro σ H Q ⟨φ, ρ, S, em, rs, h⟩
  exact ⟨φ, S, [], em, .nil, rfl, h.noX⟩
def tMethS (C : Addr) (m : Str) (sp : Sp) (E : St → XK) (ta : TE) (t : TA) : TE := fun σ H Q => ta σ H fun x H1 => ∃ a dx fs, x = .ref a ∧ H1 a = some (.ins C dx fs) ∧ fs.lookup m = none ∧ t σ H1 fun vs H2 => sp (x :: vs) H2 Q (E σ)
theorem pe_methS {CX : CXT} {C f : Addr} {fd : FuncData} {ps : List Str} {sp : Sp} {E : St → XK} {m : Str} {o e : Expr} {es : List Expr} {ta : TE} {t : TA} {apos pos : Pos} {pl : Sem Bool} (he : PE X o ta) (c : Cls X.K C) (hm : Meth X.K C m f) (F : FnOk X.prog X.w X.K X.mg X.base CX k f fd ps sp) (hr : Room k X.A) (hb : Binds X.K fd ps [])
    (hx : ∀ σ, PassesAt CX X σ (E σ)) (ha : PA X (e :: es) t)
    (hst : starEach (e :: es) X.env = (false, eval e X.env) :: starEach es X.env := by rfl) (hpl : (backTo pos (starEach es X.env)).any (·.1) = false := by rfl)
    (ht : eval (.Call (.Attribute o m apos) (e :: es) [] pos) X.env = (do
      let ov ← eval o X.env
      standAt apos.atName
      let (f, first) ← holding [ov] (getMethod ov m pl)
      callWith pos f first (backTo pos (starEach (e :: es) X.env)) (backToKw pos (keywordEach [] X.env))) := by rfl) :
    PE X (.Call (.Attribute o m apos) (e :: es) [] pos) (tMethS C m sp E ta t) := by
  refine ⟨fun pins s σ H Q I h => ?_⟩
  refine PySem.W.methodCall_KW (pl := pl) (thn (he.run pins s σ H _ I h) fun u s1 ⟨x, H1, I1, rx, a, dx, fs, ex, ea, l, q⟩ => ?_) ht
  subst ex
  obtain rfl : u = Value.ref a := rx
  refine getmeth_ok I1 ea c hm l ?_
  refine PySem.W.callWith_K (first := [.ref a]) (h₀ := X.base) I.ok.mod.kin hm.kp (thn (ha.run pos pins s1 σ H1 _ I1 q) fun us s2 ⟨vs, H2, I2, r, q2⟩ => ⟨I2.kIn, ?_⟩) hst hpl
  exact run_fnS (us := .ref a :: us) (vs := .ref a :: vs) F hr hb (hx σ) I2 (.cons rfl r) q2
def selfC (c : Cl) (d : D) (S : Sto) : Res D := match d with
  | .vo c' _ _ => if c' = c then .ok d S else .stuck
  | .loc l => match S[l]? with
    | some (.ins c' _) => if c' = c then .ok d S else .stuck
    | _ => .stuck
  | _ => .stuck
def mMeth (c : Cl) (n : Nat) (mf : MFn) (mo : MEx) (ms : MAr) : MEx := fun ρ S => (mo ρ S).bind fun d S1 => (selfC c d S1).bind fun _ _ => (ms ρ S1).bind fun ds S2 => if ds.length + 1 = n then mf (d :: ds) S2 else .stuck
def mMeth0 (c : Cl) (mf : MFn) (mo : MEx) : MEx := fun ρ S => (mo ρ S).bind fun d S1 => (selfC c d S1).bind fun _ _ => noX (mf [d] S1)
/-- the names of a class's fields are no method's -/
def noFld (c : Cl) (m : Str) : Bool :=
  [Fl.many, .cells, .inside, .row, .last_words, .named, .made, .line, .heap, .part, .to_go, .gone, .rooms, .memory, .marking, .fence, .rows, .phase, .room].all fun f => !okF c f || f.nm != m
theorem noFld_ok {c : Cl} {m : Str} (h : noFld c m = true) (f : Fl) (hf : okF c f = true) : f.nm ≠ m := by
  have hm : f ∈ [Fl.many, .cells, .inside, .row, .last_words, .named, .made, .line, .heap, .part, .to_go, .gone, .rooms, .memory, .marking, .fence, .rows, .phase, .room] := by cases f <;> decide
  have q := List.all_eq_true.mp h f hm
  rw [hf] at q
  simpa using q
theorem self_ok {K : PySem.W.Frag} {c : Cl} {d : D} {S : Sto} {φ : List Addr} {H : Hp} {v : V} {α : Type} {f : Res α} {m : Str} (hn : noFld c m = true) (em : Emb K G φ S H) (r : RV K G H φ d v)
    {R : Hp → List Addr → α → V → Prop} {σ : St} {Q : VK} (h : outR K G W R ((selfC c d S).bind fun _ _ => f) φ σ H Q) : outR K G W R f φ σ H Q ∧ ∃ a dx fs, v = .ref a ∧ H a = some (.ins (G.cl c) dx fs) ∧ fs.lookup m = none := by
  unfold selfC at h
  split at h
  · rename_i c' fs xs
    split at h
    · rename_i hc
      subst hc
      cases r with
      | @vo _ _ _ vs a dx na e1 hh e rr hall hp =>
        exact ⟨h, a, _, _, rfl, e1, (RKs.zip e rr).nolook fun f d hm => noFld_ok hn f (List.all_eq_true.mp hall _ (List.of_mem_zip hm).1)⟩
    · exact h.elim
  · split at h
    · rename_i l c' fs es
      split at h
      · rename_i hc
        subst hc
        obtain ⟨a, rfl, ha, ro⟩ := em.at_loc es r
        cases ro with
        | ins e1 rk hh hall => exact ⟨h, a, _, _, rfl, e1, rk.nolook fun f d hm => noFld_ok hn f (List.all_eq_true.mp hall _ hm)⟩
      · exact h.elim
    · exact h.elim
  · exact h.elim
theorem d_meth {c : Cl} {m : Str} {o e : Expr} {es : List Expr} {j n : Nat} {mf : MFn} {mo : MEx} {ms : MAr} {apos pos : Pos} {pl : Sem Bool} (F : FnC X.prog X.w X.K X.mg X.base G j c m mf n) (g : Gok X.K G) (d : DX X G W k) (he : PE X o (wpE X.K G W mo)) (ha : PA X (e :: es) (wpA X.K G W ms)) (hj : j ≤ k := by decide) (hn : noFld c m = true := by decide +kernel)
    (hst : starEach (e :: es) X.env = (false, eval e X.env) :: starEach es X.env := by rfl) (hpl : (backTo pos (starEach es X.env)).any (·.1) = false := by rfl)
    (ht : eval (.Call (.Attribute o m apos) (e :: es) [] pos) X.env = (do
      let ov ← eval o X.env
      standAt apos.atName
      let (f, first) ← holding [ov] (getMethod ov m pl)
      callWith pos f first (backTo pos (starEach (e :: es) X.env)) (backToKw pos (keywordEach [] X.env))) := by rfl) :
    PE X (.Call (.Attribute o m apos) (e :: es) [] pos) (wpE X.K G W (mMeth c n mf mo ms)) := by
  obtain ⟨f, fd, ps, hF, hm, hb, hh⟩ := F.ex
  refine pe_conv (pe_methS (pl := pl) he (g.cls c hh) hm hF (d.hr.mono hj) hb (fun σ => passAt d.tk σ) ha hst hpl ht) ?_
  rintro σ H Q ⟨φ, ρ, S, em, rs, h⟩
  refine ⟨φ, ρ, S, em, rs, h.bind fun o' S1 φ1 v H1 x em1 rv h1 => ?_⟩
  obtain ⟨h2, a, dx, fs, e1, e2, e3⟩ := self_ok hn em1 rv h1
  refine ⟨a, dx, fs, e1, e2, e3, φ1, ρ, S1, em1, rs.ext x, h2.bind fun ds S2 φ2 vs H2 x2 em2 rvs h3 => ?_⟩
  split at h3
  · rename_i hl
    exact ⟨φ2, S2, o' :: ds, em2, .cons (RV.ext x2 rv) rvs, hl, h3.resig fun _ _ _ z => z⟩
  · exact h3.elim
theorem d_meth0 {c : Cl} {m : Str} {o : Expr} {j : Nat} {mf : MFn} {mo : MEx} {apos pos : Pos} {pl : Sem Bool} (F : FnC X.prog X.w X.K X.mg X.base G j c m mf 1) (g : Gok X.K G) (d : DX X G W k) (he : PE X o (wpE X.K G W mo)) (hj : j ≤ k := by decide) (hn : noFld c m = true := by decide +kernel)
    (ht : eval (.Call (.Attribute o m apos) [] [] pos) X.env = (do
      let ov ← eval o X.env
      standAt apos.atName
      let (f, first) ← holding [ov] (getMethod ov m pl)
      callWith pos f first (backTo pos (starEach [] X.env)) (backToKw pos (keywordEach [] X.env))) := by rfl) :
    PE X (.Call (.Attribute o m apos) [] [] pos) (wpE X.K G W (mMeth0 c mf mo)) := by
  obtain ⟨f, fd, ps, hF, hm, hb, hh⟩ := F.ex
  refine pe_conv (pe_meth0 (pl := pl) he (g.cls c hh) hm hF (d.hr.mono hj) hb .nil passL ht) ?_
  rintro σ H Q ⟨φ, ρ, S, em, rs, h⟩
  refine ⟨φ, ρ, S, em, rs, h.bind fun o' S1 φ1 v H1 x em1 rv h1 => ?_⟩
  obtain ⟨h2, a, dx, fs, e1, e2, e3⟩ := self_ok hn em1 rv h1
  exact ⟨a, dx, fs, e1, e2, e3, φ1, S1, [o'], em1, .cons rv .nil, rfl, h2.noX⟩
/-- a class called -/
def mkEnd (l : Nat) : Res D → Res D
  | .ok .non S => .ok (.loc l) S
  | _ => .stuck
def mMake (c : Cl) (n : Nat) (mf : MFn) (ms : MAr) : MEx := fun ρ S => (ms ρ S).bind fun ds S1 => if ds.length + 1 = n then mkEnd S1.length (mf (.loc S1.length :: ds) (S1 ++ [.ins c []])) else .stuck
theorem make_ok {K : PySem.W.Frag} {c : Cl} {n : Nat} {mf : MFn} {φ : List Addr} {S : Sto} {H : Hp} {σ : St} {Q : VK} {ds : List D} {vs : List V} (hh : G.has c = true) (em : Emb K G φ S H) (rv : RVs K G H φ ds vs) (hl : ds.length + 1 = n)
    (h : outR K G W (rE K G) (mkEnd S.length (mf (.loc S.length :: ds) (S ++ [.ins c []]))) φ σ H Q) (x dx : Addr) (nx : H x = none) (ndx : H dx = none) (ne : dx ≠ x) :
    SpM K G mf n (.ref x :: vs) (upd (upd H dx (.own x)) x (.ins (G.cl c) dx [])) (fun v H2 => v = .non ∧ Q (.ref x) H2) E0 := by
  have n2 : (upd H dx (.own x)) x = none := by rw [upd_ne ne.symm]; exact nx
  have x1 : Ext φ H φ (upd H dx (.own x)) := .other ndx
  have x2 : Ext φ (upd H dx (.own x)) (φ ++ [x]) (upd (upd H dx (.own x)) x (.ins (G.cl c) dx [])) := .new n2
  have em1 : Emb K G φ S (upd H dx (.own x)) := em.other ndx
  have em2 := em1.new (o := .ins c []) (ho := .ins (G.cl c) dx []) n2 (.ins upd_same .nil hh rfl)
  have hloc : (φ ++ [x])[S.length]? = some x := by rw [← em.len]; simp
  refine ⟨φ ++ [x], S ++ [.ins c []], .loc S.length :: ds, em2, .cons (.loc hloc) (RVs.ext (x1.trans x2) rv), hl, ?_⟩
  cases q : mf (.loc S.length :: ds) (S ++ [.ins c []]) with
  | ok d S' =>
    rw [q] at h
    cases d with
    | non =>
      intro φ' v H' x3 em3 r3
      cases r3
      exact ⟨rfl, h φ' (.ref x) H' ((x1.trans x2).trans x3) em3 (.loc (pre_get x3.1 hloc))⟩
    | _ => exact h.elim
  | exc e S' => rw [q] at h; exact h.elim
  | stuck => rw [q] at h; exact h.elim
theorem d_make {c : Cl} {x : Str} {e : Expr} {es : List Expr} {j n : Nat} {mf : MFn} {ms : MAr} {p pos : Pos} (F : FnM X.prog X.w X.K X.mg X.base G j c mf n) (d : DX X G W k) (ha : PA X (e :: es) (wpA X.K G W ms)) (hx : c.nm = x := by rfl) (hj : j + 1 ≤ k := by decide) (hg : Gl X x := by rfl) (hdb : (x == ("__debug__" : Str)) = false := by decide)
    (he : starEach (e :: es) X.env = (false, eval e X.env) :: starEach es X.env := by rfl) (hpl : (backTo pos (starEach es X.env)).any (·.1) = false := by rfl) : PE X (.Call (.Name x p) (e :: es) [] pos) (wpE X.K G W (mMake c n mf ms)) := by
  subst hx
  obtain ⟨f, fd, ps, hF, hM, hm, hb, hh⟩ := F.ex
  refine pe_conv (pe_make hM hF (d.hr.mono hj) hg hm hb .nil passL ha hdb he hpl) ?_
  rintro σ H Q ⟨φ, ρ, S, em, rs, h⟩
  refine ⟨φ, ρ, S, em, rs, h.bind fun ds S1 φ1 vs H1 x em1 rv h1 => ?_⟩
  split at h1
  · rename_i hl
    intro x dx nx ndx ne
    rw [List.append_nil]
    exact make_ok hh em1 rv hl h1 x dx nx ndx ne
  · exact h1.elim
theorem d_make0 {c : Cl} {x : Str} {j n : Nat} {mf : MFn} {p pos : Pos} (F : FnM X.prog X.w X.K X.mg X.base G j c mf n) (d : DX X G W k) (hx : c.nm = x := by rfl) (hj : j + 1 ≤ k := by decide) (hg : Gl X x := by rfl) (hdb : (x == ("__debug__" : Str)) = false := by decide) :
    PE X (.Call (.Name x p) [] [] pos) (wpE X.K G W (mMake c n mf aNil)) := by
  subst hx
  obtain ⟨f, fd, ps, hF, hM, hm, hb, hh⟩ := F.ex
  refine pe_conv (pe_make0 hM hF (d.hr.mono hj) hg hm hb .nil passL hdb) ?_
  rintro σ H Q ⟨φ, ρ, S, em, rs, h⟩
  have h1 : outR X.K G W (rE X.K G) (if ([] : List D).length + 1 = n then mkEnd S.length (mf (.loc S.length :: []) (S ++ [.ins c []])) else .stuck) φ σ H Q := h
  split at h1
  · rename_i hl
    exact fun x dx nx ndx ne => make_ok hh em .nil hl h1 x dx nx ndx ne
  · exact h1.elim
end
end MP

set_option Elab.async false
set_option linter.all false
set_option maxRecDepth 100000
set_option maxHeartbeats 2000000
namespace MP
open PySem L2
section
variable {X : Cx} {G : Ga} {W : WX} {k : Nat}
/-! ### statements -/
def sNil : MSt := fun ρ S => .nx ρ S
def sSeq (a b : MSt) : MSt := fun ρ S => match a ρ S with
  | .nx ρ' S' => b ρ' S'
  | r => r
theorem ss_nil : PSs X [] (wpS X.K G W sNil) := by
  refine pss_conv pss_nil ?_
  rintro D σ H ⟨φ, ρ, S, em, rs, h⟩
  exact h φ σ H .refl em rs
theorem seq_ok {K : PySem.W.Frag} {a b : MSt} {D : Ends} {σ : St} {H : Hp} (h : wpS K G W (sSeq a b) D σ H) : wpS K G W a { D with nx := wpS K G W b D } σ H := by
  obtain ⟨φ, ρ, S, em, rs, h⟩ := h
  refine ⟨φ, ρ, S, em, rs, ?_⟩
  unfold sSeq at h
  cases q : a ρ S with
  | nx ρ' S' => rw [q] at h; exact fun φ' σ' H' x em' rs' => ⟨φ', ρ', S', em', rs', h.from x⟩
  | rt d S' => rw [q] at h; exact h
  | bk ρ' S' => rw [q] at h; exact h
  | ct ρ' S' => rw [q] at h; exact h
  | xc e ρ' S' => rw [q] at h; exact h
  | stuck => rw [q] at h; exact h
theorem ss_cons {st : Stmt} {rest : List Stmt} {a b : MSt} (h1 : PS X st (wpS X.K G W a)) (h2 : PSs X rest (wpS X.K G W b)) : PSs X (st :: rest) (wpS X.K G W (sSeq a b)) :=
  pss_conv (pss_cons h1 h2) fun D σ H h => seq_ok h
theorem ss_one {st : Stmt} {a : MSt} (h1 : PS X st (wpS X.K G W a)) : PSs X [st] (wpS X.K G W a) := pss_one h1
/-- dead slots are forgotten -/
def clr : List Nat → Rho → Rho
  | [], ρ => ρ
  | i :: is, ρ => (clr is ρ).set i none
def sClr (is : List Nat) (a : MSt) : MSt := fun ρ S => match a ρ S with
  | .nx ρ' S' => .nx (clr is ρ') S'
  | r => r
theorem RS.clr {K : PySem.W.Frag} {φ : List Addr} {ρ : Rho} {σ : St} {H : Hp} (h : RS K G φ ρ σ H) : ∀ is : List Nat, RS K G φ (MP.clr is ρ) σ H
  | [] => h
  | i :: is => by
    have q := RS.clr h is
    unfold MP.clr
    refine ⟨by simp [q.len], fun j d e => ?_⟩
    by_cases hj : i = j
    · subst hj
      rw [List.getElem?_set] at e
      simp at e
    · rw [List.getElem?_set_ne hj] at e
      exact q.at_ j d e
theorem s_clr {st : Stmt} {a : MSt} (is : List Nat) (h : PS X st (wpS X.K G W a)) : PS X st (wpS X.K G W (sClr is a)) := by
  refine ps_conv h ?_
  rintro D σ H ⟨φ, ρ, S, em, rs, h⟩
  refine ⟨φ, ρ, S, em, rs, ?_⟩
  unfold sClr at h
  cases q : a ρ S with
  | nx ρ' S' => rw [q] at h; exact fun φ' σ' H' x em' rs' => h φ' σ' H' x em' (rs'.clr is)
  | rt d S' => rw [q] at h; exact h
  | bk ρ' S' => rw [q] at h; exact h
  | ct ρ' S' => rw [q] at h; exact h
  | xc e ρ' S' => rw [q] at h; exact h
  | stuck => rw [q] at h; exact h
/-! ### a part of a body that leaves out what it made; what the names hold of it becomes a value -/
def fzSlot (S : Sto) (n : Nat) (o : Option D) : Option (Option D) := match o with
  | some d => match fzD S n 8 d with
    | some d' => some (some d')
    | none => none
  | none => some none
def fzRho (S : Sto) (n : Nat) (ρ : Rho) : Option Rho := optAll (fzSlot S n) ρ
def scpE (S' : Sto) (n : Nat) (o : Option Rho) (k : Rho → Sto → SR) : SR := match o with
  | some ρ => k ρ (S'.take n)
  | none => .stuck
open Classical in
noncomputable def scpR (S : Sto) (r : SR) : SR := match r with
  | .nx ρ S' => if Cld S S' then scpE S' S.length (fzRho S' S.length ρ) .nx else .stuck
  | .ct ρ S' => if Cld S S' then scpE S' S.length (fzRho S' S.length ρ) .ct else .stuck
  | .bk ρ S' => if Cld S S' then scpE S' S.length (fzRho S' S.length ρ) .bk else .stuck
  | r => r
noncomputable def sScp (a : MSt) : MSt := fun ρ S => scpR S (a ρ S)
theorem fz_rho {K : PySem.W.Frag} {φ : List Addr} {S : Sto} {H : Hp} (em : Emb K G φ S H) (n : Nat) : ∀ {ρ ρ' : Rho} {σ : St}, RS K G φ ρ σ H → fzRho S n ρ = some ρ' → RS K G (φ.take n) ρ' σ H := by
  intro ρ ρ' σ rs e
  have key : ∀ {ρ ρ' : Rho}, optAll (fzSlot S n) ρ = some ρ' → ρ'.length = ρ.length ∧ ∀ (i : Nat) d', ρ'[i]? = some (some d') → ∃ d, ρ[i]? = some (some d) ∧ fzD S n 8 d = some d' := by
    intro ρ
    induction ρ with
    | nil => intro ρ' e; cases e; exact ⟨rfl, fun i d' h => by simp at h⟩
    | cons o ρ ih =>
      intro ρ' e
      unfold optAll at e
      split at e
      · rename_i y ys e1 e2
        cases e
        obtain ⟨h1, h2⟩ := ih e2
        refine ⟨by simp [h1], fun i d' h => ?_⟩
        cases i with
        | zero =>
          simp at h
          subst h
          unfold fzSlot at e1
          split at e1
          · rename_i d
            split at e1
            · rename_i d2 ed
              cases e1
              exact ⟨d, by simp, ed⟩
            · cases e1
          · cases e1
        | succ i =>
          rw [List.getElem?_cons_succ] at h ⊢
          exact h2 i d' h
      · cases e
  obtain ⟨h1, h2⟩ := key e
  refine ⟨by rw [h1, rs.len], fun i d' h => ?_⟩
  obtain ⟨d, e1, e2⟩ := h2 i d' h
  obtain ⟨v, a, b⟩ := rs.at_ i d e1
  exact ⟨v, a, fz_ok em n 8 d v d' b e2⟩
theorem scp_ok {K : PySem.W.Frag} {r : SR} {φ : List Addr} {S : Sto} {H : Hp} {D : Ends} (em : Emb K G φ S H) (h : outS K G W (scpR S r) φ H D) : outS K G W r φ H D := by
  have fin : ∀ {ρ ρ2 : Rho} {S' : Sto} {Q : St → Hp → Prop}, Cld S S' → fzRho S' S.length ρ = some ρ2 → (∀ φ' σ' H', Ext φ H φ' H' → Emb K G φ' (S'.take S.length) H' → RS K G φ' ρ2 σ' H' → Q σ' H') → ∀ φ' σ' H', Ext φ H φ' H' → Emb K G φ' S' H' → RS K G φ' ρ σ' H' → Q σ' H' := by
    intro ρ ρ2 S' Q c ez h φ' σ' H' x em' rs'
    obtain ⟨e1, e2, e3⟩ := em.cut x em' c
    have := fz_rho em' S.length rs' ez
    rw [e2] at this
    exact h φ σ' H' e3 e1 this
  cases r with
  | nx ρ S' =>
    simp only [scpR] at h
    split at h
    · rename_i c
      unfold scpE at h
      split at h
      · rename_i ρ2 ez; exact fin c ez h
      · exact h.elim
    · exact h.elim
  | ct ρ S' =>
    simp only [scpR] at h
    split at h
    · rename_i c
      unfold scpE at h
      split at h
      · rename_i ρ2 ez; exact fin c ez h
      · exact h.elim
    · exact h.elim
  | bk ρ S' =>
    simp only [scpR] at h
    split at h
    · rename_i c
      unfold scpE at h
      split at h
      · rename_i ρ2 ez; exact fin c ez h
      · exact h.elim
    · exact h.elim
  | rt d S' => exact h
  | xc e ρ S' => exact h
  | stuck => exact h
theorem s_scp {st : Stmt} {a : MSt} (h : PS X st (wpS X.K G W a)) : PS X st (wpS X.K G W (sScp a)) := by
  refine ps_conv h ?_
  rintro D σ H ⟨φ, ρ, S, em, rs, h⟩
  exact ⟨φ, ρ, S, em, rs, scp_ok em h⟩
theorem ss_scp {st : List Stmt} {a : MSt} (h : PSs X st (wpS X.K G W a)) : PSs X st (wpS X.K G W (sScp a)) := by
  refine pss_conv h ?_
  rintro D σ H ⟨φ, ρ, S, em, rs, h⟩
  exact ⟨φ, ρ, S, em, rs, scp_ok em h⟩
/-- the first statements of a block, whatever comes behind -/
def PB (X : Cx) (sts : List Stmt) (t : TS) : Prop := ∀ rest u, PSs X rest u → PSs X (sts ++ rest) (tSeq t u)
theorem bb_one {st : Stmt} {a : MSt} (h : PS X st (wpS X.K G W a)) : PB X [st] (wpS X.K G W a) := fun _ _ hr => pss_cons h hr
theorem bb_cons {st : Stmt} {sts : List Stmt} {a b : MSt} (h : PS X st (wpS X.K G W a)) (hb : PB X sts (wpS X.K G W b)) : PB X (st :: sts) (wpS X.K G W (sSeq a b)) := fun rest u hr =>
  pss_conv (pss_cons h (hb rest u hr)) fun D σ H z => seq_ok z
theorem bb_scp {sts : List Stmt} {a : MSt} (h : PB X sts (wpS X.K G W a)) : PB X sts (wpS X.K G W (sScp a)) := fun rest u hr =>
  pss_conv (h rest u hr) fun D σ H ⟨φ, ρ, S, em, rs, z⟩ => ⟨φ, ρ, S, em, rs, scp_ok em z⟩
theorem ss_blk (n : Nat) {sts : List Stmt} {a b : MSt} (h : PB X (sts.take n) (wpS X.K G W a)) (hr : PSs X (sts.drop n) (wpS X.K G W b)) : PSs X sts (wpS X.K G W (sSeq a b)) := by
  have := h _ _ hr
  rw [List.take_append_drop] at this
  exact pss_conv this fun D σ H z => seq_ok z
theorem bb_blk (n : Nat) {sts : List Stmt} {a b : MSt} (h : PB X (sts.take n) (wpS X.K G W a)) (hr : PB X (sts.drop n) (wpS X.K G W b)) : PB X sts (wpS X.K G W (sSeq a b)) := fun rest u hu => by
  have := h _ _ (hr rest u hu)
  rw [← List.append_assoc, List.take_append_drop] at this
  exact pss_conv this fun D σ H z => seq_ok z
theorem ss_ofB {sts : List Stmt} {a : MSt} (h : PB X sts (wpS X.K G W a)) : PSs X sts (wpS X.K G W a) := by
  have := h [] _ pss_nil
  rw [List.append_nil] at this
  exact this
def sSet (i : Nat) (m : MEx) : MSt := fun ρ S => (m ρ S).st ρ fun d S1 => .nx (ρ.set i (some d)) S1
theorem s_set {i : Nat} {x : Str} {e : Expr} {m : MEx} {pos pos' : Pos} (d : DX X G W k) (he : PE X e (wpE X.K G W m)) (hi : X.N[i]? = some x := by rfl) (hx : Loc X.env.scope x := by first | exact Or.inl rfl | exact Or.inr rfl)
    (hs : swapsWith e (some (.Name x pos')) pos.line X.env = pure false := by rfl) (hf : X.fn x = true ∨ X.env.scope.names.lookup x = some .local := by first | exact .inl rfl | exact .inr rfl) : PS X (.Assign [.Name x pos'] e pos) (wpS X.K G W (sSet i m)) := by
  refine ps_conv (ps_set d.nd hi hx he hs hf) ?_
  rintro D σ H ⟨φ, ρ, S, em, rs, h⟩
  refine ⟨φ, ρ, S, em, rs, outR.st rs h fun v S1 φ1 y H1 x em1 rv h1 => ?_⟩
  exact h1 φ1 _ H1 .refl em1 ((rs.ext x).set i rv)
def sExpr (m : MEx) : MSt := fun ρ S => (m ρ S).st ρ fun _ S1 => .nx ρ S1
theorem s_expr {e : Expr} {m : MEx} {pos : Pos} (he : PE X e (wpE X.K G W m)) (hs : swapsWith e none pos.line X.env = pure false := by rfl) : PS X (.Expr e pos) (wpS X.K G W (sExpr m)) := by
  refine ps_conv (ps_expr he hs) ?_
  rintro D σ H ⟨φ, ρ, S, em, rs, h⟩
  refine ⟨φ, ρ, S, em, rs, outR.st rs h fun v S1 φ1 y H1 x em1 rv h1 => ?_⟩
  exact h1 φ1 σ H1 .refl em1 (rs.ext x)
def sRet (m : MEx) : MSt := fun ρ S => (m ρ S).st ρ fun d S1 => .rt d S1
theorem s_ret {e : Expr} {m : MEx} {pos : Pos} (he : PE X e (wpE X.K G W m)) : PS X (.Return (some e) pos) (wpS X.K G W (sRet m)) := by
  refine ps_conv (ps_ret he) ?_
  rintro D σ H ⟨φ, ρ, S, em, rs, h⟩
  refine ⟨φ, ρ, S, em, rs, outR.st rs h fun v S1 φ1 y H1 x em1 rv h1 => ?_⟩
  exact h1 φ1 y H1 .refl em1 rv
def sRetN : MSt := fun _ S => .rt .non S
theorem s_retN {pos : Pos} : PS X (.Return none pos) (wpS X.K G W sRetN) := by
  refine ps_conv ps_retN ?_
  rintro D σ H ⟨φ, ρ, S, em, rs, h⟩
  exact h φ .non H .refl em .non
def sIf (c : MTs) (a b : MSt) : MSt := fun ρ S => (c ρ S).st ρ fun t S1 => if t = true then a ρ S1 else b ρ S1
theorem s_if {c : Expr} {as bs : List Stmt} {mc : MTs} {a b : MSt} {pos : Pos} (hc : PT X c (wpT X.K G W mc)) (ha : PSs X as (wpS X.K G W a)) (hb : PSs X bs (wpS X.K G W b)) : PS X (.If c as bs pos) (wpS X.K G W (sIf mc a b)) := by
  refine ps_conv (ps_if hc ha hb) ?_
  rintro D σ H ⟨φ, ρ, S, em, rs, h⟩
  refine ⟨φ, ρ, S, em, rs, outR.st rs h fun t S1 φ1 t' H1 x em1 rv h1 => ?_⟩
  cases (show t = t' from rv)
  cases t with
  | true => exact ⟨φ1, ρ, S1, em1, rs.ext x, h1⟩
  | false => exact ⟨φ1, ρ, S1, em1, rs.ext x, h1⟩
theorem s_pass {pos : Pos} : PS X (.Pass pos) (wpS X.K G W sNil) := ps_conv ps_pass fun D σ H ⟨φ, ρ, S, em, rs, h⟩ => h φ σ H .refl em rs
def sBrk : MSt := fun ρ S => .bk ρ S
def sCont : MSt := fun ρ S => .ct ρ S
theorem s_break {pos : Pos} : PS X (.Break pos) (wpS X.K G W sBrk) := ps_conv ps_break fun D σ H ⟨φ, ρ, S, em, rs, h⟩ => h φ σ H .refl em rs
theorem s_continue {pos : Pos} : PS X (.Continue pos) (wpS X.K G W sCont) := ps_conv ps_continue fun D σ H ⟨φ, ρ, S, em, rs, h⟩ => h φ σ H .refl em rs
/-- never reached -/
def sNev : MSt := fun _ _ => .stuck
theorem s_never {st : Stmt} : PS X st (wpS X.K G W sNev) := ⟨fun _ _ _ _ _ _ ⟨_, _, _, _, _, h⟩ => h.elim⟩
def sAug (i : Nat) (f : D → D → Sto → Res D) (m : MEx) : MSt := fun ρ S => match ρ[i]? with
  | some (some x) => (m ρ S).st ρ fun y S1 => (f x y S1).st ρ fun z S2 => .nx (ρ.set i (some z)) S2
  | _ => .stuck
theorem s_aug {i : Nat} {x : Str} {e : Expr} {m : MEx} {op : Operator} {f : D → D → Sto → Res D} {r : R2} {pos pos' : Pos} (d : DX X G W k) (ho : PIp X op r) (hs : OpS X.K G W f r) (he : PE X e (wpE X.K G W m)) (hi : X.N[i]? = some x := by rfl) (hx : Loc X.env.scope x := by first | exact Or.inl rfl | exact Or.inr rfl)
    (hf : X.fn x = true ∨ X.env.scope.names.lookup x = some .local := by first | exact .inl rfl | exact .inr rfl) : PS X (.AugAssign (.Name x pos') op e pos) (wpS X.K G W (sAug i f m)) := by
  refine ps_conv (ps_aug d.nd hi hx he ho hf) ?_
  rintro D σ H ⟨φ, ρ, S, em, rs, h⟩
  unfold sAug at h
  split at h
  · rename_i x' e1
    obtain ⟨v, ev, rv⟩ := rs.at_ i x' e1
    refine ⟨v, ev, φ, ρ, S, em, rs, outR.st rs h fun y S1 φ1 y' H1 x1 em1 ry h1 => ?_⟩
    refine hs φ1 S1 σ H1 x' y v y' _ em1 (RV.ext x1 rv) ry (outR.st (rs.ext x1) h1 fun z S2 φ2 z' H2 x2 em2 rz h2 => ?_)
    exact h2 φ2 _ H2 .refl em2 (((rs.ext x1).ext x2).set i rz)
  · exact h.elim
theorem ip_addU : PIp X .Add (rI0 fun i j => .int (i + j)) := fun pins s σ H x y v u Q I r1 r2 h => ip_add pins s σ H x y v u Q I r1 r2 h
theorem ip_subU : PIp X .Sub (rI0 fun i j => .int (i - j)) := fun pins s σ H x y v u Q I r1 r2 h => ip_sub pins s σ H x y v u Q I r1 r2 h
def addI (i j : Int) : Option Int := some (i + j)
theorem s_addI {K : PySem.W.Frag} : OpS K G W (intOp addI) (rI0 fun i j => .int (i + j)) := s_int0 fun _ _ _ e => (Option.some.inj e).symm
/-! ### targets: a name, or names of a tuple's (a list's) items -/
inductive Tg where
  | nm (i : Nat)
  | tp (is : List Nat)
def setAll (σ : St) : List Nat → List V → St
  | i :: is, v :: vs => setAll (σ.set i (some v)) is vs
  | _, _ => σ
def setAllM (ρ : Rho) : List Nat → List D → Rho
  | i :: is, v :: vs => setAllM (ρ.set i (some v)) is vs
  | _, _ => ρ
theorem RS.setAll {K : PySem.W.Frag} {φ : List Addr} {H : Hp} : ∀ {is : List Nat} {ρ : Rho} {σ : St} {ds : List D} {vs : List V}, RS K G φ ρ σ H → RVs K G H φ ds vs → RS K G φ (setAllM ρ is ds) (MP.setAll σ is vs) H
  | [], _, _, _, _, h, .nil => h
  | [], _, _, _, _, h, .cons _ _ => h
  | _ :: _, _, _, _, _, h, .nil => h
  | i :: is, ρ, σ, _, _, h, .cons a b => by
    show RS K G φ (setAllM (ρ.set i _) is _) (MP.setAll (σ.set i _) is _) H
    exact RS.setAll (h.set i a) b
def gTg (K : PySem.W.Frag) : Tg → TG
  | .nm i => gName i
  | .tp is => fun v σ H Q => ∃ a xs, v = .ref a ∧ (SqT K H a xs ∨ SqL K H a xs) ∧ xs.length = is.length ∧ Q (setAll σ is xs) H
def tgM : Tg → D → Rho → Sto → Option Rho
  | .nm i, d, ρ, _ => some (ρ.set i (some d))
  | .tp is, d, ρ, S => match items S d with
    | some xs => if xs.length = is.length then some (setAllM ρ is xs) else none
    | none => none
theorem tg_ok {K : PySem.W.Frag} {t : Tg} {d : D} {ρ ρ' : Rho} {S : Sto} {φ : List Addr} {σ : St} {H : Hp} {v : V} {Q : St → Hp → Prop} (em : Emb K G φ S H) (rs : RS K G φ ρ σ H) (rv : RV K G H φ d v) (h : tgM t d ρ S = some ρ')
    (q : ∀ σ', RS K G φ ρ' σ' H → Q σ' H) : gTg K t v σ H Q := by
  cases t with
  | nm i => cases h; exact q _ (rs.set i rv)
  | tp is =>
    simp only [tgM] at h
    split at h
    · rename_i xs e
      split at h
      · rename_i hl
        cases h
        obtain ⟨a, vs, rfl, hs, rvs⟩ := items_ok em rv e
        exact ⟨a, vs, rfl, hs.symm, by rw [← RVs.length rvs]; exact hl, q _ (rs.setAll rvs)⟩
      · cases h
    · cases h
def gNs (is : List Nat) : TGs := fun vs σ H Q => vs.length = is.length ∧ Q (setAll σ is vs) H
theorem gs_nil : PGs X [] (gNs []) := ⟨fun pins s σ H vs us Q I r h => pgs_nil.run pins s σ H vs us Q I r ⟨List.length_eq_zero_iff.mp h.1, by
  have e : vs = [] := List.length_eq_zero_iff.mp h.1
  subst e
  exact h.2⟩⟩
theorem gs_cons {i : Nat} {is : List Nat} {x : Str} {es : List Expr} {pos : Pos} (d : DX X G W k) (hr : PGs X es (gNs is)) (hi : X.N[i]? = some x := by rfl) (hx : Loc X.env.scope x := by first | exact Or.inl rfl | exact Or.inr rfl)
    (hf : X.fn x = true ∨ X.env.scope.names.lookup x = some .local := by first | exact .inl rfl | exact .inr rfl)
    (hs : (assignEach (.Name x pos :: es) X.env).map (·.2) = assign (.Name x pos) X.env :: (assignEach es X.env).map (·.2) := by rfl) : PGs X (.Name x pos :: es) (gNs (i :: is)) := by
  refine ⟨fun pins s σ H vs us Q I r h => ?_⟩
  refine (pgs_cons (pg_name d.nd hi hx hf) hr hs).run pins s σ H vs us Q I r ?_
  obtain ⟨hl, hq⟩ := h
  cases vs with
  | nil => simp at hl
  | cons v vs => exact ⟨v, vs, rfl, by simpa using hl, hq⟩
theorem g_nm {i : Nat} {x : Str} {pos : Pos} (d : DX X G W k) (hi : X.N[i]? = some x := by rfl) (hx : Loc X.env.scope x := by first | exact Or.inl rfl | exact Or.inr rfl)
    (hf : X.fn x = true ∨ X.env.scope.names.lookup x = some .local := by first | exact .inl rfl | exact .inr rfl) : PG X (.Name x pos) (gTg X.K (.nm i)) := pg_name d.nd hi hx hf
theorem g_tp {es : List Expr} {kk : Nat} {is : List Nat} {pos : Pos} (d : DX X G W k) (h : PGs X es (gNs is)) (hn : (assignEach es X.env).length = is.length := by rfl) (hst : (assignEach es X.env).findIdx? (·.1) = none := by rfl) : PG X (.Tuple es kk pos) (gTg X.K (.tp is)) := by
  refine pg_conv (pg_or2 (pg_tup d.calm h hn hst) (pg_lst d.calm h hn hst)) ?_
  rintro v σ H Q ⟨a, xs, rfl, hs, hl, hq⟩
  rcases hs with hs | hs
  · exact .inl ⟨a, xs, rfl, hs, hl, hl, hq⟩
  · exact .inr ⟨a, xs, rfl, hs, hl, hl, hq⟩
def sTgO (r : Option Rho) (S : Sto) : SR := match r with
  | some ρ => .nx ρ S
  | none => .stuck
def sAsg (t : Tg) (m : MEx) : MSt := fun ρ S => (m ρ S).st ρ fun d S1 => sTgO (tgM t d ρ S1) S1
theorem s_asg {tg e : Expr} {t : Tg} {m : MEx} {pos : Pos} (he : PE X e (wpE X.K G W m)) (hg : PG X tg (gTg X.K t)) (hs : swapsWithSole [tg] e pos.line X.env = pure false := by rfl) (hw : swappedStores [tg] e X.env = pure none := by rfl)
    (h1 : (assignEach [tg] X.env).map (·.2) = [assign tg X.env] := by rfl) : PS X (.Assign [tg] e pos) (wpS X.K G W (sAsg t m)) := by
  refine ps_conv (ps_asg he hg hs hw h1) ?_
  rintro D σ H ⟨φ, ρ, S, em, rs, h⟩
  refine ⟨φ, ρ, S, em, rs, outR.st rs h fun d S1 φ1 v H1 x em1 rv h1 => ?_⟩
  cases q : tgM t d ρ S1 with
  | none => rw [q] at h1; exact h1.elim
  | some ρ' =>
    rw [q] at h1
    exact tg_ok em1 (rs.ext x) rv q fun σ' rs' => h1 φ1 σ' H1 .refl em1 rs'
/-! ### while -/
def whileN (c : MTs) (b : MSt) : Nat → MSt
  | 0 => fun _ _ => .stuck
  | n + 1 => fun ρ S => (c ρ S).st ρ fun t S1 => if t = true then
      match b ρ S1 with
      | .nx ρ' S' => whileN c b n ρ' S'
      | .ct ρ' S' => whileN c b n ρ' S'
      | .bk ρ' S' => .nx ρ' S'
      | r => r
    else .nx ρ S1
def FUEL : Nat := 1000000
def sWhile (c : MTs) (b : MSt) : MSt := whileN c b FUEL
theorem s_while {c : Expr} {body : List Stmt} {mc : MTs} {mb : MSt} {pos : Pos} (d : DX X G W k) (hc : PT X c (wpT X.K G W mc)) (hb : PSs X body (wpS X.K G W mb)) : PS X (.While c body [] pos) (wpS X.K G W (sWhile mc mb)) := by
  refine ps_conv (ps_while d.pn hc hb) ?_
  intro D σ H h
  refine ⟨fun m σ H => wpS X.K G W (whileN mc mb m) D σ H, ⟨FUEL, h⟩, fun m σ H h => ?_⟩
  obtain ⟨φ, ρ, S, em, rs, h⟩ := h
  cases m with
  | zero => exact h.elim
  | succ n =>
    refine ⟨φ, ρ, S, em, rs, outR.st rs h fun t S1 φ1 t' H1 x em1 rv h1 => ?_⟩
    cases (show t = t' from rv)
    cases t with
    | false => exact h1 φ1 σ H1 .refl em1 (rs.ext x)
    | true =>
      rw [if_pos rfl] at h1 ⊢
      refine ⟨fun σ' H' => wpS X.K G W (whileN mc mb n) D σ' H', fun σ' H' z => ⟨n, Nat.lt_succ_self n, z⟩, φ1, ρ, S1, em1, rs.ext x, ?_⟩
      cases q : mb ρ S1 with
      | nx ρ' S' => rw [q] at h1; exact fun φ' σ' H' x' em' rs' => ⟨φ', ρ', S', em', rs', h1.from x'⟩
      | ct ρ' S' => rw [q] at h1; exact fun φ' σ' H' x' em' rs' => ⟨φ', ρ', S', em', rs', h1.from x'⟩
      | bk ρ' S' => rw [q] at h1; exact h1
      | rt d S' => rw [q] at h1; exact h1
      | xc e ρ' S' => rw [q] at h1; exact h1
      | stuck => rw [q] at h1; exact h1
/-! ### for -/
structure MIt where
  get : Nat → Sto → Option (Option D)
  fuel : Nat
def ItOk (K : PySem.W.Frag) (G : Ga) (it : MIt) (J : It) (φ0 : List Addr) (H0 : Hp) : Prop :=
  ∀ (i : Nat) φ S H, Ext φ0 H0 φ H → Emb K G φ S H → match it.get i S with
    | none => True
    | some none => J.stop i H
    | some (some d) => J.go i H ∧ ∀ y H', J.yld i H y H' → Ext φ H φ H' ∧ Emb K G φ S H' ∧ RV K G H' φ d y
abbrev MIx := Rho → Sto → Res MIt
def wpI (K : PySem.W.Frag) (G : Ga) (W : WX) (m : MIx) : TI := fun σ H R => ∃ φ ρ S, Emb K G φ S H ∧ RS K G φ ρ σ H ∧
  match m ρ S with
  | .ok it S' => ∀ φ' J H', Ext φ H φ' H' → Emb K G φ' S' H' → ItOk K G it J φ' H' → R J H'
  | .exc e S' => ∀ φ' H', Ext φ H φ' H' → Emb K G φ' S' H' → XW K G W e φ' σ H'
  | .stuck => False
def forGo (it : MIt) (t : Tg) (b : MSt) : Nat → Nat → MSt
  | 0, _ => fun _ _ => .stuck
  | n + 1, i => fun ρ S => match it.get i S with
    | none => .stuck
    | some none => .nx ρ S
    | some (some d) => match tgM t d ρ S with
      | none => .stuck
      | some ρ1 => match b ρ1 S with
        | .nx ρ' S' => forGo it t b n (i + 1) ρ' S'
        | .ct ρ' S' => forGo it t b n (i + 1) ρ' S'
        | .bk ρ' S' => .nx ρ' S'
        | r => r
def sFor (mi : MIx) (t : Tg) (b : MSt) : MSt := fun ρ S => (mi ρ S).st ρ fun it S1 => forGo it t b it.fuel 0 ρ S1
theorem s_for {tg iter : Expr} {body : List Stmt} {mi : MIx} {t : Tg} {mb : MSt} {pos : Pos} (d : DX X G W k) (hi : PI X tg iter (wpI X.K G W mi)) (hg : PG X tg (gTg X.K t)) (hb : PSs X body (wpS X.K G W mb))
    (hs : ∀ x, foldedSetIterable iter X.env x = pure x := by intro _; rfl) : PS X (.For tg iter body [] pos) (wpS X.K G W (sFor mi t mb)) := by
  refine ps_conv (ps_for d.pn d.calm hi hg hb hs) ?_
  rintro D σ H ⟨φ, ρ, S, em, rs, h⟩
  refine ⟨φ, ρ, S, em, rs, ?_⟩
  unfold sFor at h
  cases q : mi ρ S with
  | stuck => rw [q] at h; exact h
  | exc e S' => rw [q] at h; exact fun φ' H' x em' => h φ' σ H' x em' (rs.ext x)
  | ok it S1 =>
    rw [q] at h
    intro φ1 J H1 x1 em1 hJ
    refine ⟨fun i m σ H => ∃ φ ρ S, Ext φ1 H1 φ H ∧ Emb X.K G φ S H ∧ RS X.K G φ ρ σ H ∧ outS X.K G W (forGo it t mb m i ρ S) φ H D, ⟨it.fuel, φ1, ρ, S1, .refl, em1, rs.ext x1, outS.from x1 h⟩, ?_⟩
    rintro i m σ2 H2 ⟨φ2, ρ2, S2, x2, em2, rs2, h2⟩
    cases m with
    | zero => exact h2.elim
    | succ n =>
      have hj := hJ i φ2 S2 H2 x2 em2
      unfold forGo at h2
      cases hget : it.get i S2 with
      | none => rw [hget] at h2; exact h2.elim
      | some od =>
        cases od with
        | none => rw [hget] at h2 hj; exact .inl ⟨hj, h2 φ2 σ2 H2 .refl em2 rs2⟩
        | some dv =>
          rw [hget] at h2 hj
          refine .inr ⟨hj.1, fun σ' H' => ∃ φ ρ S, Ext φ1 H1 φ H' ∧ Emb X.K G φ S H' ∧ RS X.K G φ ρ σ' H' ∧ outS X.K G W (forGo it t mb n (i + 1) ρ S) φ H' D, fun σ' H' z => ⟨n, Nat.lt_succ_self n, z⟩, fun y H3 hy => ?_⟩
          obtain ⟨x3, em3, rv⟩ := hj.2 y H3 hy
          cases ht : tgM t dv ρ2 S2 with
          | none => simp only [ht] at h2; exact h2.elim
          | some ρ3 =>
            simp only [ht] at h2
            refine tg_ok em3 (rs2.ext x3) rv ht fun σ3 rs3 => ⟨φ2, ρ3, S2, em3, rs3, ?_⟩
            have h2' := outS.from x3 h2
            cases qb : mb ρ3 S2 with
            | nx ρ' S' => rw [qb] at h2'; exact fun φ' σ' H' x' em' rs' => ⟨φ', ρ', S', (x2.trans x3).trans x', em', rs', h2'.from x'⟩
            | ct ρ' S' => rw [qb] at h2'; exact fun φ' σ' H' x' em' rs' => ⟨φ', ρ', S', (x2.trans x3).trans x', em', rs', h2'.from x'⟩
            | bk ρ' S' => rw [qb] at h2'; exact h2'
            | rt d S' => rw [qb] at h2'; exact h2'
            | xc e ρ' S' => rw [qb] at h2'; exact h2'
            | stuck => rw [qb] at h2'; exact h2'
end
end MP

set_option Elab.async false
set_option linter.all false
set_option maxRecDepth 100000
set_option maxHeartbeats 2000000
namespace MP
open PySem L2
section
variable {X : Cx} {G : Ga} {W : WX} {k : Nat}
/-! ### what is walked -/
def altI (a b : MIx) : MIx := fun ρ S => match a ρ S with
  | .stuck => b ρ S
  | r => r
theorem i_alt {tg e : Expr} {a b : MIx} (ha : PI X tg e (wpI X.K G W a)) (hb : PI X tg e (wpI X.K G W b)) : PI X tg e (wpI X.K G W (altI a b)) := by
  refine pi_conv (pi_or2 ha hb) ?_
  rintro σ H Q ⟨φ, ρ, S, em, rs, h⟩
  unfold altI at h
  cases q : a ρ S with
  | ok d S' => rw [q] at h; exact .inl ⟨φ, ρ, S, em, rs, by rw [q]; exact h⟩
  | exc d S' => rw [q] at h; exact .inl ⟨φ, ρ, S, em, rs, by rw [q]; exact h⟩
  | stuck => rw [q] at h; exact .inr ⟨φ, ρ, S, em, rs, h⟩
def Res.it {α : Type} (r : Res α) (f : α → Sto → Option MIt) : Res MIt := r.bind fun a S => match f a S with
  | some it => .ok it S
  | none => .stuck
def lstGet (l : Nat) : Nat → Sto → Option (Option D) := fun i S => match S[l]? with
  | some (.lst xs) => some xs[i]?
  | _ => none
/-- a tuple's items, a value's, a text's signs: they stay as they are -/
def fixGet (xs : List D) : Nat → Sto → Option (Option D) := fun i _ => some xs[i]?
def itL (d : D) (S : Sto) : Option MIt := match d with
  | .loc l => match S[l]? with
    | some (.lst xs) => some ⟨lstGet l, xs.length + 1⟩
    | _ => none
  | .vl xs => some ⟨fixGet xs, xs.length + 1⟩
  | .cl xs => some ⟨fixGet xs, xs.length + 1⟩
  | _ => none
def miL (m : MEx) : MIx := fun ρ S => (m ρ S).it itL
theorem sq_inj {K : PySem.W.Frag} {H : Hp} {φ : List Addr} {fz : Bool} {xs : List D} {a : Addr} (ro : RO K G H φ (.lst xs) a) : ∃ vs, SqL K H a vs ∧ RVs K G H φ xs vs := ro.sql
theorem it_list {K : PySem.W.Frag} {l : Nat} {a : Addr} {n : Nat} {φ0 : List Addr} {H0 : Hp} (ha : φ0[l]? = some a) : ItOk K G ⟨lstGet l, n⟩ (Itl K a) φ0 H0 := by
  intro i φ S H x em
  have ha' := pre_get x.1 ha
  show match lstGet l i S with | none => True | some none => _ | some (some d) => _
  unfold lstGet
  split
  · trivial
  · rename_i e
    split at e
    · rename_i fz xs es
      obtain ⟨vs, sq, rv⟩ := (em.ob l _ a es ha').sql
      have e' : xs[i]? = none := Option.some.inj e
      exact ⟨vs, sq, by rw [← RVs.length rv]; exact List.getElem?_eq_none_iff.mp e'⟩
    · cases e
  · rename_i d e
    split at e
    · rename_i fz xs es
      obtain ⟨vs, sq, rv⟩ := (em.ob l _ a es ha').sql
      have e' : xs[i]? = some d := Option.some.inj e
      obtain ⟨v, ev, r⟩ := RVs.get rv e'
      refine ⟨⟨vs, v, sq, ev⟩, ?_⟩
      rintro y H' ⟨rfl, hy⟩
      have := hy vs sq
      rw [ev] at this
      cases this
      exact ⟨.refl, em, r⟩
    · cases e
theorem it_vl {K : PySem.W.Frag} {d : D} {xs : List D} {a : Addr} {n : Nat} {φ0 : List Addr} {H0 : Hp} (hd : ∀ S, lstO S d = some xs) (r : RV K G H0 φ0 d (.ref a)) : ItOk K G ⟨fixGet xs, n⟩ (Itl K a) φ0 H0 := by
  intro i φ S H x em
  show match fixGet xs i S with | none => True | some none => _ | some (some d) => _
  obtain ⟨p, vs, e0, sq, s⟩ := lst_ok em (r.ext x) (hd S)
  cases e0
  unfold fixGet
  cases e : xs[i]? with
  | none => exact ⟨_, sq, by rw [← RVs.length s]; exact List.getElem?_eq_none_iff.mp e⟩
  | some d =>
    obtain ⟨v, ev, r'⟩ := RVs.get s e
    refine ⟨⟨_, v, sq, ev⟩, ?_⟩
    rintro y H' ⟨rfl, hy⟩
    have := hy _ sq
    rw [ev] at this
    cases this
    exact ⟨.refl, em, r'⟩
theorem i_list {tg e : Expr} {m : MEx} (he : PE X e (wpE X.K G W m)) : PI X tg e (wpI X.K G W (miL m)) := by
  refine pi_conv (pi_list he) ?_
  rintro σ H R ⟨φ, ρ, S, em, rs, h⟩
  refine ⟨φ, ρ, S, em, rs, ?_⟩
  unfold miL Res.it at h
  cases q : m ρ S with
  | stuck => rw [q] at h; exact h
  | exc e S' => rw [q] at h; exact h
  | ok d S1 =>
    rw [q] at h
    intro φ1 v H1 x1 em1 rv
    simp only [Res.bind_ok] at h
    unfold itL at h
    split at h
    · rename_i it S2 hh
      split at hh
      · rename_i it' e1
        split at e1
        · rename_i l
          split at e1
          · rename_i fz xs es
            cases e1
            cases hh
            obtain ⟨a, rfl, ha, ro⟩ := em1.at_loc es rv
            obtain ⟨vs, sq, _⟩ := ro.sql
            exact ⟨a, rfl, ⟨vs, sq⟩, h φ1 _ H1 x1 em1 (it_list ha)⟩
          · cases e1
        · rename_i xs
          cases e1
          cases hh
          obtain ⟨a, vs, rfl, sq, _⟩ := lst_ok em1 rv (xs := xs) rfl
          exact ⟨_, rfl, ⟨_, sq⟩, h φ1 _ H1 x1 em1 (it_vl (fun _ => rfl) rv)⟩
        · rename_i xs
          cases e1
          cases hh
          obtain ⟨a, vs, rfl, sq, _⟩ := lst_ok em1 rv (xs := xs) rfl
          exact ⟨_, rfl, ⟨_, sq⟩, h φ1 _ H1 x1 em1 (it_vl (fun _ => rfl) rv)⟩
        · cases e1
      · cases hh
    · rename_i hh; split at hh <;> cases hh
    · exact h.elim
def itT (d : D) (_ : Sto) : Option MIt := match d with
  | .tup xs => some ⟨fixGet xs, xs.length + 1⟩
  | _ => none
def miT (m : MEx) : MIx := fun ρ S => (m ρ S).it itT
/-- the common part: an expression, then its iterator -/
theorem it_core {K : PySem.W.Frag} {α : Type} {β : Type} {R : Hp → List Addr → α → β → Prop} {m : Rho → Sto → Res α} {f : α → Sto → Option MIt} {φ : List Addr} {ρ : Rho} {S : Sto} {σ : St} {H : Hp} {RR : It → Hp → Prop} {Q1 : β → Hp → Prop}
    (h : match (m ρ S).it f with
      | .ok it S' => ∀ φ' J H', Ext φ H φ' H' → Emb K G φ' S' H' → ItOk K G it J φ' H' → RR J H'
      | .exc e S' => ∀ φ' H', Ext φ H φ' H' → Emb K G φ' S' H' → XW K G W e φ' σ H'
      | .stuck => False)
    (kk : ∀ a S1 φ1 b H1 it, Ext φ H φ1 H1 → Emb K G φ1 S1 H1 → R H1 φ1 a b → f a S1 = some it → (∀ J, ItOk K G it J φ1 H1 → RR J H1) → Q1 b H1) : outR K G W R (m ρ S) φ σ H Q1 := by
  unfold Res.it at h
  cases q : m ρ S with
  | stuck => rw [q] at h; exact h
  | exc e S' => rw [q] at h; exact h
  | ok d S1 =>
    rw [q] at h
    intro φ1 v H1 x1 em1 rv
    simp only [Res.bind_ok] at h
    cases hf : f d S1 with
    | none => simp only [hf] at h
    | some it =>
      simp only [hf] at h
      exact kk d S1 φ1 v H1 it x1 em1 rv hf fun J hJ => h φ1 J H1 x1 em1 hJ
theorem i_tup {tg e : Expr} {m : MEx} (he : PE X e (wpE X.K G W m)) : PI X tg e (wpI X.K G W (miT m)) := by
  refine pi_conv (pi_tup he) ?_
  rintro σ H R ⟨φ, ρ, S, em, rs, h⟩
  refine ⟨φ, ρ, S, em, rs, it_core h fun d S1 φ1 v H1 it x1 em1 rv hf hR => ?_⟩
  unfold itT at hf
  split at hf
  · rename_i xs
    cases hf
    cases rv with
    | @tup _ vs a s q =>
      refine ⟨_, rfl, ⟨_, s⟩, hR _ ?_⟩
      intro i φ' S' H' x em'
      show match fixGet xs i S' with | none => True | some none => _ | some (some d) => _
      unfold fixGet
      have s' := x.2.sqt s
      have q' := RVs.ext x q
      cases e : xs[i]? with
      | none => exact ⟨vs, s', by rw [← RVs.length q']; exact List.getElem?_eq_none_iff.mp e⟩
      | some d =>
        obtain ⟨w, ew, r⟩ := RVs.get q' e
        refine ⟨⟨vs, w, s', ew⟩, ?_⟩
        rintro y H'' ⟨rfl, hy⟩
        have := hy vs s'
        rw [ew] at this
        cases this
        exact ⟨.refl, em', r⟩
  · cases hf
def signs (z : Str) : List D := z.cps.toList.map fun c => .str ⟨#[c]⟩
def itS (d : D) (_ : Sto) : Option MIt := match d with
  | .str z => some ⟨fixGet (signs z), z.length + 1⟩
  | _ => none
def miS (m : MEx) : MIx := fun ρ S => (m ρ S).it itS
theorem i_str {tg e : Expr} {m : MEx} (he : PE X e (wpE X.K G W m)) : PI X tg e (wpI X.K G W (miS m)) := by
  refine pi_conv (pi_str he) ?_
  rintro σ H R ⟨φ, ρ, S, em, rs, h⟩
  refine ⟨φ, ρ, S, em, rs, it_core h fun d S1 φ1 v H1 it x1 em1 rv hf hR => ?_⟩
  unfold itS at hf
  split at hf
  · rename_i z
    cases hf
    cases rv
    refine ⟨z, rfl, hR _ ?_⟩
    intro i φ' S' H' x em'
    show match fixGet (signs z) i S' with | none => True | some none => _ | some (some d) => _
    unfold fixGet signs
    have e0 : z.cps.toList[i]? = z.cps[i]? := by simp
    rw [List.getElem?_map, e0]
    cases e : z.cps[i]? with
    | none => exact Array.getElem?_eq_none_iff.mp e
    | some c =>
      refine ⟨(Array.getElem?_eq_some_iff.mp e).1, ?_⟩
      rintro y H'' ⟨rfl, c', e', rfl⟩
      rw [e] at e'
      cases e'
      exact ⟨.refl, em', .str⟩
  · cases hf
def rngGet (lo : Int) (n : Nat) : Nat → Sto → Option (Option D) := fun i _ => some (if i < n then some (.int (lo + i)) else none)
theorem it_rng {K : PySem.W.Frag} {lo : Int} {n m : Nat} {φ0 : List Addr} {H0 : Hp} : ItOk K G ⟨rngGet lo n, m⟩ (Itr lo n) φ0 H0 := by
  intro i φ S H x em
  show match rngGet lo n i S with | none => True | some none => _ | some (some d) => _
  unfold rngGet
  by_cases h : i < n
  · rw [if_pos h]
    refine ⟨h, ?_⟩
    rintro y H' ⟨rfl, rfl⟩
    exact ⟨.refl, em, .int⟩
  · rw [if_neg h]
    exact Nat.le_of_not_lt h
def itR1 (ds : List D) (_ : Sto) : Option MIt := match ds with
  | [.int j] => if -(2 ^ 62) ≤ j ∧ j < 2 ^ 62 then some ⟨rngGet 0 j.toNat, j.toNat + 1⟩ else none
  | _ => none
def itR2 (ds : List D) (_ : Sto) : Option MIt := match ds with
  | [.int i, .int j] => if -(2 ^ 62) ≤ i ∧ i < 2 ^ 62 ∧ -(2 ^ 62) ≤ j ∧ j < 2 ^ 62 then some ⟨rngGet i (j - i).toNat, (j - i).toNat + 1⟩ else none
  | _ => none
def miR1 (ms : MAr) : MIx := fun ρ S => (ms ρ S).it itR1
def miR2 (ms : MAr) : MIx := fun ρ S => (ms ρ S).it itR2
theorem i_rng1 {tg a : Expr} {ms : MAr} {p pos : Pos} (hm : X.mg "range" = none) (ha : PA X [a] (wpA X.K G W ms)) (hg : Gl X "range" := by rfl) (hs : starEach [a] X.env = [(false, eval a X.env)] := by rfl) : PI X tg (.Call (.Name "range" p) [a] [] pos) (wpI X.K G W (miR1 ms)) := by
  refine pi_conv (pi_range1 hg hm ha hs) ?_
  rintro σ H R ⟨φ, ρ, S, em, rs, h⟩
  refine ⟨φ, ρ, S, em, rs, it_core h fun d S1 φ1 v H1 it x1 em1 rv hf hR => ?_⟩
  unfold itR1 at hf
  split at hf
  · split at hf
    · rename_i j hj
      cases hf
      cases (show RVs X.K G H1 φ1 _ v from rv) with
      | cons a b => cases a; cases b; exact ⟨j, rfl, hj.1, hj.2, hR _ it_rng⟩
    · cases hf
  · cases hf
theorem i_rng2 {tg a b : Expr} {ms : MAr} {p pos : Pos} (hm : X.mg "range" = none) (ha : PA X [a, b] (wpA X.K G W ms)) (hg : Gl X "range" := by rfl) (hs : starEach [a, b] X.env = [(false, eval a X.env), (false, eval b X.env)] := by rfl) (hs2 : starEach [b] X.env = [(false, eval b X.env)] := by rfl) :
    PI X tg (.Call (.Name "range" p) [a, b] [] pos) (wpI X.K G W (miR2 ms)) := by
  refine pi_conv (pi_range2 hg hm ha hs hs2) ?_
  rintro σ H R ⟨φ, ρ, S, em, rs, h⟩
  refine ⟨φ, ρ, S, em, rs, it_core h fun d S1 φ1 v H1 it x1 em1 rv hf hR => ?_⟩
  unfold itR2 at hf
  split at hf
  · split at hf
    · rename_i i j hj
      cases hf
      cases (show RVs X.K G H1 φ1 _ v from rv) with
      | cons a b => cases a; cases b with
        | cons a b => cases a; cases b; exact ⟨i, j, rfl, hj, hR _ it_rng⟩
    · cases hf
  · cases hf
/-- enumerate(list) -/
def enGet (l : Nat) : Nat → Sto → Option (Option D) := fun i S => match S[l]? with
  | some (.lst xs) => some (xs[i]?.map fun d => .tup [.int (i : Nat), d])
  | _ => none
def enFix (xs : List D) : Nat → Sto → Option (Option D) := fun i _ => some (xs[i]?.map fun d => .tup [.int (i : Nat), d])
def itEn (ds : List D) (S : Sto) : Option MIt := match ds with
  | [.loc l] => match S[l]? with
    | some (.lst xs) => some ⟨enGet l, xs.length + 1⟩
    | _ => none
  | [.vl xs] => some ⟨enFix xs, xs.length + 1⟩
  | [.cl xs] => some ⟨enFix xs, xs.length + 1⟩
  | _ => none
def miEn (ms : MAr) : MIx := fun ρ S => (ms ρ S).it itEn
theorem it_enF {K : PySem.W.Frag} {d : D} {xs : List D} {a : Addr} {n : Nat} {φ0 : List Addr} {H0 : Hp} (hd : ∀ S, lstO S d = some xs) (r : RV K G H0 φ0 d (.ref a)) : ItOk K G ⟨enFix xs, n⟩ (Ite K a) φ0 H0 := by
  intro i φ S H x em
  show match enFix xs i S with | none => True | some none => _ | some (some d) => _
  obtain ⟨p, vs, e0, sq, s⟩ := lst_ok em (r.ext x) (hd S)
  cases e0
  unfold enFix
  cases e : xs[i]? with
  | none => simp only [Option.map_none]; exact ⟨vs, sq, by rw [← RVs.length s]; exact List.getElem?_eq_none_iff.mp e⟩
  | some d =>
    simp only [Option.map_some]
    obtain ⟨w, ew, r'⟩ := RVs.get s e
    refine ⟨⟨vs, w, sq, ew⟩, ?_⟩
    rintro y H'' ⟨T, x0, rfl, hT, rfl, hy⟩
    have := hy vs sq
    rw [ew] at this
    cases this
    exact ⟨.other hT, em.other hT, .tup (.of upd_same) (.cons .int (.cons (RV.ext (.other hT) r') .nil))⟩
theorem i_enum {e : Expr} {elts : List Expr} {kk : Nat} {ms : MAr} {p pos tpos : Pos} (hm : X.mg "enumerate" = none) (ha : PA X [e] (wpA X.K G W ms)) (hg : Gl X "enumerate" := by rfl) (hs : starEach [e] X.env = [(false, eval e X.env)] := by rfl) :
    PI X (.Tuple elts kk tpos) (.Call (.Name "enumerate" p) [e] [] pos) (wpI X.K G W (miEn ms)) := by
  refine pi_conv (pi_enum hg hm ha hs) ?_
  rintro σ H R ⟨φ, ρ, S, em, rs, h⟩
  refine ⟨φ, ρ, S, em, rs, it_core h fun d S1 φ1 v H1 it x1 em1 rv hf hR => ?_⟩
  unfold itEn at hf
  split at hf
  · rename_i l
    split at hf
    · rename_i xs es
      cases hf
      cases (show RVs X.K G H1 φ1 _ v from rv) with
      | cons r b =>
        cases b
        obtain ⟨a, rfl, ha, ro⟩ := em1.at_loc es r
        obtain ⟨vs, sq, rvs⟩ := ro.sql
        refine ⟨a, vs, rfl, sq, hR _ ?_⟩
        intro i φ' S' H' x em'
        show match enGet l i S' with | none => True | some none => _ | some (some d) => _
        unfold enGet
        have ha' := pre_get x.1 ha
        cases es' : S'[l]? with
        | none => trivial
        | some o =>
          cases o with
          | lst ys =>
            obtain ⟨ws, sq', rvs'⟩ := (em'.ob l _ a es' ha').sql
            cases e : ys[i]? with
            | none => simp only [e, Option.map_none]; exact ⟨ws, sq', by rw [← RVs.length rvs']; exact List.getElem?_eq_none_iff.mp e⟩
            | some d =>
              simp only [e, Option.map_some]
              obtain ⟨w, ew, r'⟩ := RVs.get rvs' e
              refine ⟨⟨ws, w, sq', ew⟩, ?_⟩
              rintro y H'' ⟨T, x0, rfl, hT, rfl, hy⟩
              have := hy ws sq'
              rw [ew] at this
              cases this
              exact ⟨.other hT, em'.other hT, .tup (.of upd_same) (.cons .int (.cons (RV.ext (.other hT) r') .nil))⟩
          | dct _ _ => trivial
          | ins _ _ => trivial
    · cases hf
  · rename_i xs
    cases hf
    cases (show RVs X.K G H1 φ1 _ v from rv) with
    | cons r b =>
      cases b
      obtain ⟨a, vs, rfl, sq, _⟩ := lst_ok em1 r (xs := xs) rfl
      exact ⟨a, vs, rfl, sq, hR _ (it_enF (fun _ => rfl) r)⟩
  · rename_i xs
    cases hf
    cases (show RVs X.K G H1 φ1 _ v from rv) with
    | cons r b =>
      cases b
      obtain ⟨a, vs, rfl, sq, _⟩ := lst_ok em1 r (xs := xs) rfl
      exact ⟨a, vs, rfl, sq, hR _ (it_enF (fun _ => rfl) r)⟩
  · cases hf
/-! ### comprehensions -/
def lcGo (it : MIt) (t : Tg) (tt : MTs) (me : MEx) (ρ : Rho) (L : Nat) : Nat → Nat → Sto → Res D
  | 0, _, _ => .stuck
  | n + 1, i, S => match it.get i S with
    | none => .stuck
    | some none => .ok (.loc L) S
    | some (some d) => match tgM t d ρ S with
      | none => .stuck
      | some ρ1 => (noX (tt ρ1 S)).bind fun b S2 => if b = true then
          (noX (me ρ1 S2)).bind fun y S3 => match S3[L]? with
            | some (.lst acc) => if acc.length < sizeLine then lcGo it t tt me ρ L n (i + 1) (S3.set L (.lst (acc ++ [y]))) else .stuck
            | _ => .stuck
        else lcGo it t tt me ρ L n (i + 1) S2
def mLc (mi : MIx) (t : Tg) (tt : MTs) (me : MEx) (own : List Nat) : MEx := fun ρ S => (mi ρ S).bind fun it S1 => lcGo it t tt me (clr own ρ) S1.length it.fuel 0 (S1 ++ [.lst []])
def tYesM : MTs := fun _ S => .ok true S
end
end MP

set_option Elab.async false
set_option linter.all false
set_option maxRecDepth 100000
set_option maxHeartbeats 2000000
namespace MP
open PySem L2
section
variable {X : Cx} {G : Ga} {W : WX} {k : Nat}
theorem wipe_get (σ : St) (j : Nat) : ∀ vs : List Nat, (wipe σ vs)[j]? = if j ∈ vs then σ[j]?.map (fun _ => (none : Option V)) else σ[j]?
  | [] => by simp [wipe]
  | v :: vs => by
    show ((wipe σ vs).set v none)[j]? = _
    have ih := wipe_get σ j vs
    by_cases hj : v = j
    · subst hj
      by_cases hl : v < σ.length
      · rw [List.getElem?_set_self (by rw [wipe_length]; exact hl), if_pos (by simp), List.getElem?_eq_getElem hl]
        rfl
      · rw [List.getElem?_eq_none (by simp [wipe_length]; omega), if_pos (by simp), List.getElem?_eq_none (by omega)]
        rfl
    · rw [List.getElem?_set_ne hj, ih]
      have hj' : ¬ j = v := fun e => hj e.symm
      simp only [List.mem_cons, hj', false_or]
theorem wipe_set {σ : St} {vs : List Nat} {i : Nat} {o : Option V} (h : i ∈ vs) : wipe ((wipe σ vs).set i o) vs = wipe σ vs := by
  apply List.ext_getElem?
  intro j
  rw [wipe_get, wipe_get, List.getElem?_set, wipe_get, wipe_length]
  by_cases hj : j ∈ vs
  · by_cases hi : i = j
    · subst hi
      by_cases hl : i < σ.length
      · simp [h, hl]
      · simp [h, hl, List.getElem?_eq_none (Nat.le_of_not_lt hl)]
    · simp [hj, hi, Option.map_map, Function.comp_def]
  · have hi : ¬ i = j := fun e => hj (e ▸ h)
    simp [hj, hi]
theorem wipe_idem {σ : St} {vs : List Nat} : wipe (wipe σ vs) vs = wipe σ vs := by
  apply List.ext_getElem?
  intro j
  rw [wipe_get, wipe_get]
  by_cases hj : j ∈ vs <;> simp [hj, Option.map_map, Function.comp_def]
theorem wipe_over {τ : St} {vs : List Nat} {i : Nat} {o : Option V} (h : i ∈ vs) : wipe (τ.set i o) vs = wipe τ vs := by
  apply List.ext_getElem?
  intro j
  rw [wipe_get, wipe_get, List.getElem?_set]
  by_cases hi : i = j
  · subst hi
    by_cases hl : i < τ.length
    · simp [h, hl]
    · simp [h, hl, List.getElem?_eq_none (Nat.le_of_not_lt hl)]
  · simp [hi]
theorem wipe_setAll {vs : List Nat} {σ : St} : ∀ {is : List Nat} {xs : List V} {τ : St}, (∀ i ∈ is, i ∈ vs) → wipe τ vs = wipe σ vs → wipe (setAll τ is xs) vs = wipe σ vs
  | [], [], _, _, e => e
  | [], _ :: _, _, _, e => e
  | _ :: _, [], _, _, e => e
  | i :: is, x :: xs, τ, h, e => by
    show wipe (setAll (τ.set i (some x)) is xs) vs = wipe σ vs
    exact wipe_setAll (fun j hj => h j (by simp [hj])) ((wipe_over (h i (by simp))).trans e)
theorem rs_wipe {K : PySem.W.Frag} {φ : List Addr} {ρ : Rho} {σ : St} {H : Hp} (h : RS K G φ ρ σ H) (vs : List Nat) : RS K G φ (clr vs ρ) (L2.wipe σ vs) H := by
  induction vs with
  | nil => exact h
  | cons i vs ih =>
    show RS K G φ ((clr vs ρ).set i none) ((L2.wipe σ vs).set i none) H
    refine ⟨by simp [ih.len], fun j d e => ?_⟩
    by_cases hj : i = j
    · subst hj
      rw [List.getElem?_set] at e
      simp at e
    · rw [List.getElem?_set_ne hj] at e ⊢
      exact ih.at_ j d e
def Tg.ins : Tg → List Nat → Bool
  | .nm i, vs => vs.contains i
  | .tp is, vs => is.all fun i => vs.contains i
theorem tg_wipe {K : PySem.W.Frag} {t : Tg} {vs : List Nat} (ht : t.ins vs = true) {v : V} {σ : St} {H : Hp} {Q : St → Hp → Prop} (h : gTg K t v (wipe σ vs) H Q) : gTg K t v (wipe σ vs) H (fun σ' H' => wipe σ' vs = wipe σ vs ∧ Q σ' H') := by
  cases t with
  | nm i =>
    have hi : i ∈ vs := by simpa [Tg.ins] using ht
    exact ⟨wipe_set hi, h⟩
  | tp is =>
    obtain ⟨a, xs, e, hs, hl, q⟩ := h
    have hi : ∀ i ∈ is, i ∈ vs := by simpa [Tg.ins] using ht
    exact ⟨a, xs, e, hs, hl, wipe_setAll hi wipe_idem, q⟩
theorem out_noXb {K : PySem.W.Frag} {α β γ δ : Type} {R : Hp → List Addr → α → β → Prop} {R' : Hp → List Addr → γ → δ → Prop} {r : Res α} {f : α → Sto → Res γ} {φ : List Addr} {σ σ' : St} {H : Hp} {Q : δ → Hp → Prop} {Q1 : β → Hp → Prop} (h : outR K G W R' ((noX r).bind f) φ σ H Q)
    (kk : ∀ a S1 φ1 b H1, Ext φ H φ1 H1 → Emb K G φ1 S1 H1 → R H1 φ1 a b → outR K G W R' (f a S1) φ1 σ H1 Q → Q1 b H1) : outR K G W0 R r φ σ' H Q1 := by
  cases r with
  | ok a S => exact fun φ1 b H1 x em rv => kk a S φ1 b H1 x em rv (outR.from x h)
  | exc e S => exact h.elim
  | stuck => exact h
/-- the append to the list at L -/
theorem app_step {K : PySem.W.Frag} {φ : List Addr} {S : Sto} {H : Hp} {L : Nat} {p : Addr} {acc : List D} {y : D} {v : V} (em : Emb K G φ S H) (hp : φ[L]? = some p) (hS : S[L]? = some (.lst acc)) (rv : RV K G H φ y v) :
    ∃ vs, H p = some (.lst vs) ∧ vs.length = acc.length ∧ Ext φ H φ (upd H p (.lst (vs ++ [v]))) ∧ Emb K G φ (S.set L (.lst (acc ++ [y]))) (upd H p (.lst (vs ++ [v]))) := by
  obtain ⟨vs, e1, rvs⟩ := (em.ob L _ p hS hp).lstM
  have n1 : ∀ xs, HO.lst vs ≠ .tup xs := fun _ z => nomatch z
  have n2 : ∀ ob w, HO.lst vs ≠ .frz ob w := fun _ _ z => nomatch z
  have xa : Ext φ H φ (upd H p (.lst (vs ++ [v]))) := .at hp e1 n1 n2
  exact ⟨vs, e1, (RVs.length rvs).symm, xa, em.set hS hp e1 n1 n2 (.lst upd_same (RVs.ext xa (RVs.append rvs (.cons rv .nil))))⟩
theorem lc_ok {K : PySem.W.Frag} {mi : MIx} {t : Tg} {tt : MTs} {me : MEx} {own : List Nat} {cw : TI} (hcw : ∀ σ H R, wpI K G W mi σ H R → cw σ H R) (ht : t.ins own = true) (σ : St) (H : Hp) (Q : VK) (h : wpE K G W (mLc mi t tt me own) σ H Q) :
    tLc cw (gTg K t) (wpT K G W0 tt) (wpE K G W0 me) own σ H Q := by
  obtain ⟨φ, ρ, S, em, rs, h⟩ := h
  refine hcw σ H _ ⟨φ, ρ, S, em, rs, ?_⟩
  unfold mLc at h
  cases q : mi ρ S with
  | stuck => rw [q] at h; exact h
  | exc e S' => rw [q] at h; exact h
  | ok it S1 =>
    rw [q] at h
    intro φ1 J H1 x1 em1 hJ p hp
    have xn : Ext φ1 H1 (φ1 ++ [p]) (upd H1 p (.lst [])) := .new hp
    have em2 : Emb K G (φ1 ++ [p]) (S1 ++ [.lst []]) (upd H1 p (.lst [])) := em1.new hp (.lst upd_same .nil)
    have hL : (φ1 ++ [p])[S1.length]? = some p := by rw [← em1.len]; simp
    have rsw : RS K G φ1 (clr own ρ) (L2.wipe σ own) H1 := rs_wipe (rs.ext x1) own
    refine ⟨fun i m H => ∃ φ S, Ext (φ1 ++ [p]) (upd H1 p (.lst [])) φ H ∧ Emb K G φ S H ∧ outR K G W (rE K G) (lcGo it t tt me (clr own ρ) S1.length m i S) φ σ H Q, ⟨it.fuel, _, _, .refl, em2, outR.from (x1.trans xn) h⟩, ?_⟩
    rintro i m H2 ⟨φ2, S2, x2, em3, h2⟩
    have x12 : Ext φ1 H1 φ2 H2 := xn.trans x2
    have hL2 := pre_get x2.1 hL
    cases m with
    | zero => exact h2.elim
    | succ n =>
      have hj := hJ i φ2 S2 H2 x12 em3
      unfold lcGo at h2
      cases hget : it.get i S2 with
      | none => rw [hget] at h2; exact h2.elim
      | some od =>
        cases od with
        | none => rw [hget] at h2 hj; exact .inl ⟨hj, outR.ok (R := rE K G) h2 em3 (.loc hL2)⟩
        | some dv =>
          rw [hget] at h2 hj
          refine .inr ⟨hj.1, fun H' => ∃ φ S, Ext (φ1 ++ [p]) (upd H1 p (.lst [])) φ H' ∧ Emb K G φ S H' ∧ outR K G W (rE K G) (lcGo it t tt me (clr own ρ) S1.length n (i + 1) S) φ σ H' Q, fun H' z => ⟨n, Nat.lt_succ_self n, z⟩, fun y H3 hy => ?_⟩
          obtain ⟨x3, em4, rv⟩ := hj.2 y H3 hy
          cases htg : tgM t dv (clr own ρ) S2 with
          | none => simp only [htg] at h2; exact h2.elim
          | some ρ3 =>
            simp only [htg] at h2
            refine tg_wipe ht (tg_ok em4 (rsw.ext (x12.trans x3)) rv htg fun σ3 rs3 => ?_)
            refine ⟨φ2, ρ3, S2, em4, rs3, out_noXb (outR.from x3 h2) fun b S4 φ4 b' H4 x4 em5 rb h4 => ?_⟩
            cases (show b = b' from rb)
            cases b with
            | false => exact ⟨φ4, S4, (x2.trans x3).trans x4, em5, h4⟩
            | true =>
              refine ⟨φ4, ρ3, S4, em5, rs3.ext x4, out_noXb (show outR K G W (rE K G) _ φ4 σ H4 Q from h4) fun yd S5 φ5 yv H5 x5 em6 ry h5 => ?_⟩
              have xx : Ext (φ1 ++ [p]) (upd H1 p (.lst [])) φ5 H5 := ((x2.trans x3).trans x4).trans x5
              have hL5 := pre_get xx.1 hL
              split at h5
              · rename_i acc eS
                split at h5
                · rename_i hlt
                  obtain ⟨vs, e1, e2, xa, em7⟩ := app_step em6 hL5 eS ry
                  exact ⟨vs, e1, by rw [e2]; exact hlt, φ5, _, xx.trans xa, em7, outR.from xa h5⟩
                · exact h5.elim
              · exact h5.elim
/-- a block's context -/
theorem DX.blk (d : DX X G W k) (s : Shared) (H : Hp) (scope : Scope) (ce : Env) (fp : List Addr) : DX (X.blk s H scope ce fp) G W0 k :=
  ⟨d.calm, takes0, PassesOwn.never, ⟨d.hr.hd, d.hr.dp, d.hr.un⟩, d.nd⟩
theorem d_lc {elt tg iter : Expr} {ifs : List Expr} {scope : Scope} {own : List (Str × Nat)} {pos : Pos} {mi : MIx} {t : Tg} {tt : MTs} {me : MEx} (d : DX X G W k) (hi : PI X tg iter (wpI X.K G W mi)) (ok : blkC X.N X.env.scope scope own = true)
    (hg : ∀ (s : Shared) (H : Hp) (C : Addr) (cl : List (Str × Addr)) (fp : List Addr), DX (X.blk s H scope (compEnvC scope cl C X.env) fp) G W0 k → PG (X.blk s H scope (compEnvC scope cl C X.env) fp) tg (gTg X.K t))
    (htt : ∀ (s : Shared) (H : Hp) (C : Addr) (cl : List (Str × Addr)) (fp : List Addr), DX (X.blk s H scope (compEnvC scope cl C X.env) fp) G W0 k → PTs (X.blk s H scope (compEnvC scope cl C X.env) fp) ifs (wpT X.K G W0 tt))
    (he : ∀ (s : Shared) (H : Hp) (C : Addr) (cl : List (Str × Addr)) (fp : List Addr), DX (X.blk s H scope (compEnvC scope cl C X.env) fp) G W0 k → PE (X.blk s H scope (compEnvC scope cl C X.env) fp) elt (wpE X.K G W0 me))
    (hin : t.ins (own.map (·.2)) = true := by decide) (hs : ∀ x, foldedSetIterable iter X.env x = pure x := by intro _; rfl) :
    PE X (.ListComp elt [⟨tg, iter, ifs, 0⟩] scope pos) (wpE X.K G W (mLc mi t tt me (own.map (·.2)))) :=
  pe_conv (pe_lc d.calm d.nd hi (blkOk_by ok) (fun s H C cl fp => hg s H C cl fp (d.blk ..)) (fun s H C cl fp => htt s H C cl fp (d.blk ..)) (fun s H C cl fp => he s H C cl fp (d.blk ..)) hs) (lc_ok (fun _ _ _ z => z) hin)
/-- name = [..] -/
theorem s_setLc {i : Nat} {y : Str} {py : Pos} {elt tg iter : Expr} {ifs : List Expr} {scope : Scope} {own : List (Str × Nat)} {pos spos : Pos} {mi : MIx} {t : Tg} {tt : MTs} {me : MEx} (d : DX X G W k) (hi : PI X tg iter (wpI X.K G W mi)) (ok : blkC X.N X.env.scope scope own = true)
    (hsw : swapsWith (.ListComp elt [⟨tg, iter, ifs, 0⟩] scope pos) (some (.Name y py)) spos.line X.env = pure true)
    (hg : ∀ (s : Shared) (H : Hp) (C : Addr) (cl : List (Str × Addr)) (fp : List Addr), DX (X.blk s H scope (compEnvC scope cl C X.env) fp) G W0 k → PG (X.blk s H scope (compEnvC scope cl C X.env) fp) tg (gTg X.K t))
    (htt : ∀ (s : Shared) (H : Hp) (C : Addr) (cl : List (Str × Addr)) (fp : List Addr), DX (X.blk s H scope (compEnvC scope cl C X.env) fp) G W0 k → PTs (X.blk s H scope (compEnvC scope cl C X.env) fp) ifs (wpT X.K G W0 tt))
    (he : ∀ (s : Shared) (H : Hp) (C : Addr) (cl : List (Str × Addr)) (fp : List Addr), DX (X.blk s H scope (compEnvC scope cl C X.env) fp) G W0 k → PE (X.blk s H scope (compEnvC scope cl C X.env) fp) elt (wpE X.K G W0 me))
    (hin : t.ins (own.map (·.2)) = true := by decide) (hy : X.N[i]? = some y := by rfl) (hyl : X.env.scope.names.lookup y = some .local := by rfl) (hs : ∀ x, foldedSetIterable iter X.env x = pure x := by intro _; rfl) :
    PS X (.Assign [.Name y py] (.ListComp elt [⟨tg, iter, ifs, 0⟩] scope pos) spos) (wpS X.K G W (sSet i (mLc mi t tt me (own.map (·.2))))) := by
  refine ps_conv (ps_setLc (i := i) d.calm d.nd hy hyl hsw hi (blkOk_by ok) (fun s H C cl fp => hg s H C cl fp (d.blk ..)) (fun s H C cl fp => htt s H C cl fp (d.blk ..)) (fun s H C cl fp => he s H C cl fp (d.blk ..)) hs) ?_
  rintro D σ H ⟨φ, ρ, S, em, rs, h⟩
  refine lc_ok (W := W) (fun _ _ _ z => z) hin σ H _ ⟨φ, ρ, S, em, rs, outR.st rs h fun v S1 φ1 y H1 x em1 rv h1 => ?_⟩
  exact h1 φ1 _ H1 .refl em1 ((rs.ext x).set i rv)
theorem ts_nil : PTs X [] (wpT X.K G W tYesM) := ⟨fun pins s σ H Q I ⟨φ, ρ, S, em, rs, h⟩ => pts_nil.run pins s σ H Q I (outR.ok (R := rT) h em rfl)⟩
theorem ts_one {c : Expr} {m : MTs} (h : PT X c (wpT X.K G W m)) : PTs X [c] (wpT X.K G W m) := pts_one h
end
end MP

set_option Elab.async false
set_option linter.all false
set_option maxRecDepth 100000
set_option maxHeartbeats 2000000
namespace MP
open PySem L2
section
variable {X : Cx} {G : Ga} {W : WX} {k : Nat}
/-! ### built-in functions by their values -/
def CallS (K : PySem.W.Frag) (G : Ga) (W : WX) (f : List D → Sto → Res D) (r : List V → Hp → VK → Prop) : Prop :=
  ∀ φ S σ H ds vs Q, Emb K G φ S H → RVs K G H φ ds vs → outR K G W (rE K G) (f ds S) φ σ H Q → r vs H Q
def mCB (f : List D → Sto → Res D) (ms : MAr) : MEx := fun ρ S => (ms ρ S).bind f
theorem cb {K : PySem.W.Frag} {f : List D → Sto → Res D} {r : List V → Hp → VK → Prop} {ms : MAr} (hs : CallS K G W f r) (σ : St) (H : Hp) (Q : VK) (h : wpE K G W (mCB f ms) σ H Q) : tCB r (wpA K G W ms) σ H Q := by
  obtain ⟨φ, ρ, S, em, rs, h⟩ := h
  refine ⟨φ, ρ, S, em, rs, h.bind fun ds S1 φ1 vs H1 x em1 rv h1 => ?_⟩
  exact hs φ1 S1 σ H1 ds vs Q em1 rv h1
theorem d_callB {x : Str} {id : String} {e : Expr} {es : List Expr} {f : List D → Sto → Res D} {r : List V → Hp → VK → Prop} {ms : MAr} {p pos : Pos} (hc : CallR X (.builtin id) r) (hs : CallS X.K G W f r) (hm : X.mg x = none) (ha : PA X (e :: es) (wpA X.K G W ms)) (hv : bootBuiltins x = some (.builtin id) := by decide +kernel) (hg : Gl X x := by rfl)
    (hn : x ≠ "__name__" := by decide) (hdb : (x == ("__debug__" : Str)) = false := by decide)
    (he : starEach (e :: es) X.env = (false, eval e X.env) :: starEach es X.env := by rfl) (hpl : (backTo pos (starEach es X.env)).any (·.1) = false := by rfl) : PE X (.Call (.Name x p) (e :: es) [] pos) (wpE X.K G W (mCB f ms)) :=
  pe_conv (pe_callB hc hg hm hv ha hn hdb he hpl) (cb hs)
theorem d_callT {x : Str} {T : String} {e : Expr} {es : List Expr} {f : List D → Sto → Res D} {r : List V → Hp → VK → Prop} {ms : MAr} {p pos : Pos} (hc : CallR X (.type T) r) (hs : CallS X.K G W f r) (hm : X.mg x = none) (ha : PA X (e :: es) (wpA X.K G W ms)) (hv : bootBuiltins x = some (.type T) := by decide +kernel) (hg : Gl X x := by rfl)
    (hn : x ≠ "__name__" := by decide) (hdb : (x == ("__debug__" : Str)) = false := by decide)
    (he : starEach (e :: es) X.env = (false, eval e X.env) :: starEach es X.env := by rfl) (hpl : (backTo pos (starEach es X.env)).any (·.1) = false := by rfl) : PE X (.Call (.Name x p) (e :: es) [] pos) (wpE X.K G W (mCB f ms)) :=
  pe_conv (pe_callTy hc hg hm hv ha hn hdb he hpl) (cb hs)
def lenO (o : Option (List D)) (S : Sto) : Res D := match o with
  | some xs => .ok (.int xs.length) S
  | none => .stuck
def cLen (ds : List D) (S : Sto) : Res D := match ds with
  | [.str z] => if z.length ≤ sizeLine then .ok (.int z.length) S else .stuck
  | [.loc l] => match S[l]? with
    | some (.lst xs) => .ok (.int xs.length) S
    | some (.dct false kvs) => .ok (.int kvs.length) S
    | _ => .stuck
  | [.vd ks _] => .ok (.int ks.length) S
  | [d] => lenO (items S d) S
  | _ => .stuck
def rLenU (K : PySem.W.Frag) : List V → Hp → VK → Prop := fun xs H Q => (∃ p ys, xs = [.ref p] ∧ (SqL K H p ys ∨ SqT K H p ys) ∧ Q (.int ys.length) H) ∨ (∃ z, xs = [.str z] ∧ z.length ≤ sizeLine ∧ Q (.int z.length) H) ∨ (∃ a kvs, xs = [V.ref a] ∧ H a = some (.dK kvs) ∧ Q (.int kvs.length) H)
theorem cr_lenU : CallR X (.builtin "len") (rLenU X.K) := call_len_seq.or (call_len_str.or call_lenD)
theorem s_len {K : PySem.W.Frag} : CallS K G W cLen (rLenU K) := by
  intro φ S σ H ds vs Q em r h
  unfold cLen at h
  split at h
  · split at h
    · rename_i hl
      cases r with
      | cons a b => cases b; cases a; exact .inr (.inl ⟨_, rfl, hl, outR.ok (R := rE K G) h em .int⟩)
    · exact h.elim
  · cases r with
    | cons a b =>
      cases b
      split at h
      · rename_i xs es
        obtain ⟨p, rfl, _, ro⟩ := em.at_loc es a
        obtain ⟨ws, sq, rv⟩ := ro.sql
        exact .inl ⟨p, ws, rfl, .inl sq, by rw [← RVs.length rv]; exact outR.ok (R := rE K G) h em .int⟩
      · rename_i kvs es
        obtain ⟨p, rfl, _, ro⟩ := em.at_loc es a
        cases ro with
        | dct e1 rk => exact .inr (.inr ⟨p, _, rfl, e1, by rw [← rk.length]; exact outR.ok (R := rE K G) h em .int⟩)
      · exact h.elim
  · cases r with
    | cons a b =>
      cases b
      cases a with
      | vd n e1 e2 rk hp =>
        refine .inr (.inr ⟨_, _, rfl, e1, ?_⟩)
        rw [← e2, List.length_map] at h
        exact outR.ok (R := rE K G) h em .int
  · unfold lenO at h
    split at h
    · rename_i xs es
      cases r with
      | cons a b =>
        cases b
        obtain ⟨p, vs, rfl, sq, rv⟩ := items_ok em a es
        exact .inl ⟨p, vs, rfl, sq, by rw [← RVs.length rv]; exact outR.ok (R := rE K G) h em .int⟩
    · exact h.elim
  · exact h.elim
def cAbs (ds : List D) (S : Sto) : Res D := match ds with
  | [.int i] => .ok (.int (if i < 0 then -i else i)) S
  | _ => .stuck
theorem s_abs {K : PySem.W.Frag} : CallS K G W cAbs (fun xs H Q => ∃ i, xs = [.int i] ∧ Q (.int (if i < 0 then -i else i)) H) := by
  intro φ S σ H ds vs Q em r h
  unfold cAbs at h
  split at h
  · cases r with
    | cons a b => cases b; cases a; exact ⟨_, rfl, outR.ok (R := rE K G) h em .int⟩
  · exact h.elim
def cMin (ds : List D) (S : Sto) : Res D := match ds with
  | [.int i, .int j] => .ok (.int (if j < i then j else i)) S
  | _ => .stuck
def cMax (ds : List D) (S : Sto) : Res D := match ds with
  | [.int i, .int j] => .ok (.int (if j > i then j else i)) S
  | _ => .stuck
theorem s_min {K : PySem.W.Frag} : CallS K G W cMin (fun xs H Q => ∃ i j, xs = [.int i, .int j] ∧ Q (.int (if j < i then j else i)) H) := by
  intro φ S σ H ds vs Q em r h
  unfold cMin at h
  split at h
  · cases r with
    | cons a b => cases b with
      | cons a' b => cases b; cases a; cases a'; exact ⟨_, _, rfl, outR.ok (R := rE K G) h em .int⟩
  · exact h.elim
theorem s_max {K : PySem.W.Frag} : CallS K G W cMax (fun xs H Q => ∃ i j, xs = [.int i, .int j] ∧ Q (.int (if j > i then j else i)) H) := by
  intro φ S σ H ds vs Q em r h
  unfold cMax at h
  split at h
  · cases r with
    | cons a b => cases b with
      | cons a' b => cases b; cases a; cases a'; exact ⟨_, _, rfl, outR.ok (R := rE K G) h em .int⟩
  · exact h.elim
def cInt (ds : List D) (S : Sto) : Res D := match ds with
  | [.int i] => .ok (.int i) S
  | [.bl b] => .ok (.int (if b then 1 else 0)) S
  | _ => .stuck
theorem s_intc {K : PySem.W.Frag} : CallS K G W cInt (fun xs H Q => (∃ i, xs = [.int i] ∧ Q (.int i) H) ∨ ∃ k, xs = [.bl k] ∧ Q (.int (if k then 1 else 0)) H) := by
  intro φ S σ H ds vs Q em r h
  unfold cInt at h
  split at h
  · cases r with
    | cons a b => cases b; cases a; exact .inl ⟨_, rfl, outR.ok (R := rE K G) h em .int⟩
  · cases r with
    | cons a b => cases b; cases a; exact .inr ⟨_, rfl, outR.ok (R := rE K G) h em .int⟩
  · exact h.elim
def cList (tr : Bool) (ds : List D) (S : Sto) : Res D := match ds with
  | [d] => match items S d with
    | some xs => newL tr xs S
    | none => .stuck
  | _ => .stuck
theorem s_list {K : PySem.W.Frag} {tr : Bool} : CallS K G W (cList tr) (fun xs H Q => ∃ p ys, xs = [.ref p] ∧ (SqL K H p ys ∨ SqT K H p ys) ∧ ∀ l, H l = none → Q (.ref l) (upd H l (.lst ys))) := by
  intro φ S σ H ds vs Q em r h
  unfold cList at h
  split at h
  · split at h
    · rename_i xs e
      cases r with
      | cons a b =>
        cases b
        obtain ⟨p, ws, rfl, hs, rv⟩ := items_ok em a e
        exact ⟨p, ws, rfl, hs, fun l hl => h.newL em rv hl⟩
    · exact h.elim
  · exact h.elim
def cTuple (ds : List D) (S : Sto) : Res D := match ds with
  | [d] => match items S d with
    | some xs => .ok (.tup xs) S
    | none => .stuck
  | _ => .stuck
theorem s_tuple {K : PySem.W.Frag} : CallS K G W cTuple (fun xs H Q => ∃ p ys, xs = [.ref p] ∧ ((SqL K H p ys ∧ ∀ l, H l = none → Q (.ref l) (upd H l (.tup ys))) ∨ (SqT K H p ys ∧ Q (.ref p) H))) := by
  intro φ S σ H ds vs Q em r h
  unfold cTuple at h
  split at h
  · split at h
    · rename_i xs e
      cases r with
      | cons a b =>
        cases b
        obtain ⟨p, ws, rfl, hs, rv⟩ := items_ok em a e
        refine ⟨p, ws, rfl, ?_⟩
        rcases hs with hs | hs
        · exact .inl ⟨hs, fun l hl => h φ _ _ (.other hl) (em.other hl) (.tup (.of upd_same) (RVs.ext (.other hl) rv))⟩
        · exact .inr ⟨hs, outR.ok (R := rE K G) h em (.tup hs rv)⟩
    · exact h.elim
  · exact h.elim
def cStr (ds : List D) (S : Sto) : Res D := match ds with
  | [.int i] => if i.natAbs.log2 < 1920 then .ok (.str (toString i)) S else .stuck
  | _ => .stuck
theorem s_strc {K : PySem.W.Frag} : CallS K G W cStr (fun xs H Q => ∃ i, xs = [.int i] ∧ i.natAbs.log2 < 1920 ∧ Q (.str (toString i)) H) := by
  intro φ S σ H ds vs Q em r h
  unfold cStr at h
  split at h
  · split at h
    · rename_i hl
      cases r with
      | cons a b => cases b; cases a; exact ⟨_, rfl, hl, outR.ok (R := rE K G) h em .str⟩
    · exact h.elim
  · exact h.elim
/-! ### isinstance -/
def D.ty (d : D) (S : Sto) : Option String := match d with
  | .non => some "NoneType" | .bl _ => some "bool" | .int _ => some "int" | .str _ => some "str" | .tup _ => some "tuple" | .vl _ => some "list" | .cl _ => some "list" | .vd _ _ => some "dict"
  | .loc l => match S[l]? with
    | some (.lst _) => some "list"
    | some (.dct _ _) => some "dict"
    | _ => none
  | .vo _ _ _ => none
  | .xv _ _ => none
def isT (a b : String) : Bool := a == b || (a == "bool" && b == "int")
theorem ty_lsv {K : PySem.W.Frag} {φ : List Addr} {H : Hp} {a : Addr} {vs : List V} (q : LsV K H φ a vs) : TyX K H (.ref a) (.type "list") := by
  rcases q with ⟨n, o, q⟩ | ⟨o, its, n, h1, h2, _⟩
  · exact .base (.frz q)
  · exact .kList h1 h2
theorem ty_ok {K : PySem.W.Frag} {φ : List Addr} {S : Sto} {H : Hp} {d : D} {v : V} {t : String} (em : Emb K G φ S H) (r : RV K G H φ d v) (h : d.ty S = some t) : TyX K H v (.type t) := by
  unfold D.ty at h
  split at h
  · cases r; cases h; exact .base .non
  · cases r; cases h; exact .base (.bl _)
  · cases r; cases h; exact .base (.int _)
  · cases r; cases h; exact .base (.str _)
  · cases r with
    | tup s q =>
      cases h
      rcases s with (s | ⟨o, s⟩) | ⟨o, its, n, h1, h2, _⟩
      · exact .base (.tup s)
      · exact .fTuple s
      · exact .kTuple h1 h2
  · cases r with
    | vl n q s p => cases h; exact .base (.lst q)
  · cases r with
    | cl q s p => cases h; exact ty_lsv q
  · cases r with
    | vd n e1 e2 rk hp => cases h; exact .base (.dK e1)
  · split at h
    · rename_i xs es
      cases h
      obtain ⟨a, rfl, _, ro⟩ := em.at_loc es r
      cases ro with
      | lst e1 _ => exact .base (.lst e1)
    · rename_i fz xs es
      cases h
      obtain ⟨a, rfl, _, ro⟩ := em.at_loc es r
      cases ro with
      | dct e1 _ => exact .base (.dK e1)
      | dctF e1 _ => exact .fDict e1
    · cases h
  · cases h
  · cases h
def isiR (T : String) (d : D) (S : Sto) : Res D := match d.ty S with
  | some t => .ok (.bl (isT t T)) S
  | none => .stuck
def mIsi (T : String) (m : MEx) : MEx := fun ρ S => (m ρ S).bind (isiR T)
theorem d_isi (T : String) {x : Str} {e : Expr} {m : MEx} {p p2 pos : Pos} (hmi : X.mg "isinstance" = none) (hm : X.mg x = none) (he : PE X e (wpE X.K G W m)) (hk : ∀ a, a ∈ ["NoneType", "bool", "int", "str", "tuple", "list", "dict"] → kitB a T = some (isT a T) := by decide +kernel)
    (hv : bootBuiltins x = some (.type T) := by decide +kernel) (hgi : Gl X "isinstance" := by rfl) (hg : Gl X x := by rfl) (hn : x ≠ "__name__" := by decide) (hdb : (x == ("__debug__" : Str)) = false := by decide)
    (hs : starEach (e :: [.Name x p2]) X.env = (false, eval e X.env) :: starEach [.Name x p2] X.env := by rfl) (hpl : (backTo pos (starEach [.Name x p2] X.env)).any (·.1) = false := by rfl) : PE X (.Call (.Name "isinstance" p) [e, .Name x p2] [] pos) (wpE X.K G W (mIsi T m)) := by
  refine pe_conv (pe_callB call_isi hgi hmi (by decide +kernel) (pa_cons he (pa_cons (pe_bltn (v := .ty T) hg hm hv rfl hn hdb) pa_nil) hs) (by decide) (by decide) hs hpl) ?_
  rintro σ H Q ⟨φ, ρ, S, em, rs, h⟩
  refine ⟨φ, ρ, S, em, rs, h.bind fun d S1 φ1 v H1 x1 em1 rv h1 => ?_⟩
  unfold isiR at h1
  split at h1
  · rename_i t ht
    have hin : t ∈ ["NoneType", "bool", "int", "str", "tuple", "list", "dict"] := by
      unfold D.ty at ht
      split at ht <;> first | (cases ht; decide) | (cases ht; done) | (split at ht <;> first | (cases ht; decide) | cases ht)
    exact ⟨v, .ty T, .type t, .type T, isT t T, rfl, .ty T, ty_ok em1 rv ht, kit_ty (hk t hin), outR.ok (R := rE X.K G) h1 em1 .bl⟩
  · exact h1.elim
/-! ### methods of lists -/
def MetS (K : PySem.W.Frag) (G : Ga) (W : WX) (f : D → List D → Sto → Res D) (r : V → List V → Hp → VK → Prop) : Prop :=
  ∀ φ S σ H d ds v vs Q, Emb K G φ S H → RV K G H φ d v → RVs K G H φ ds vs → outR K G W (rE K G) (f d ds S) φ σ H Q → r v vs H Q
def isL (d : D) (S : Sto) : Bool := (lstO S d).isSome
def mBM (p : D → Sto → Bool) (f : D → List D → Sto → Res D) (mo : MEx) (ms : MAr) : MEx := fun ρ S => (mo ρ S).bind fun d S1 => if p d S1 = true then (ms ρ S1).bind fun ds S2 => f d ds S2 else .stuck
theorem tyL {K : PySem.W.Frag} {φ : List Addr} {S : Sto} {H : Hp} {d : D} {v : V} (em : Emb K G φ S H) (r : RV K G H φ d v) (h : isL d S = true) : tyV K "list" v H := by
  unfold isL at h
  obtain ⟨xs, e⟩ := Option.isSome_iff_exists.mp h
  obtain ⟨a, vs, rfl, sq, _⟩ := lst_ok em r e
  exact .inl ⟨rfl, vs, sq⟩
theorem d_bm {T id : String} {name : Str} {o e : Expr} {es : List Expr} {f : D → List D → Sto → Res D} {r : V → List V → Hp → VK → Prop} {pp : D → Sto → Bool} {mo : MEx} {ms : MAr} {apos cpos : Pos} (pa : PlainAttrs T) (slot : Slot T name id) (hty : typeOf (.builtin id) = pure (.type "method_descriptor")) (hm : MtR X id r) (hs : MetS X.K G W f r)
    (htv : ∀ φ S H d v, Emb X.K G φ S H → RV X.K G H φ d v → pp d S = true → tyV X.K T v H) (ho : PE X o (wpE X.K G W mo)) (ha : PA X (e :: es) (wpA X.K G W ms))
    (hbase : attributeBase o name X.env (eval o X.env) = eval o X.env := by rfl)
    (hfew : ((backTo cpos (starEach (e :: es) X.env)).all (fun x => !x.1) && (backToKw cpos (keywordEach [] X.env)).all (fun x => x.1.isSome)
      && decide ((e :: es).length + ([] : List Keyword).length + (if ([] : List Keyword).isEmpty then 0 else 1) < 30)) = true := by rfl)
    (hline : (apos.endLine == cpos.line) = true := by rfl) (hst : starEach (e :: es) X.env = (false, eval e X.env) :: starEach es X.env := by rfl) (hplain : (backTo cpos (starEach es X.env)).any (·.1) = false := by rfl) :
    PE X (.Call (.Attribute o name apos) (e :: es) [] cpos) (wpE X.K G W (mBM pp f mo ms)) := by
  refine pe_conv (pe_bm pa slot hty hm ho ha hbase hfew hline hst hplain) ?_
  rintro σ H Q ⟨φ, ρ, S, em, rs, h⟩
  refine ⟨φ, ρ, S, em, rs, h.bind fun d S1 φ1 v H1 x1 em1 rv h1 => ?_⟩
  split at h1
  · rename_i hp
    refine ⟨htv _ _ _ _ _ em1 rv hp, φ1, ρ, S1, em1, rs.ext x1, h1.bind fun ds S2 φ2 vs H2 x2 em2 rvs h2 => ?_⟩
    exact hs φ2 S2 σ H2 d ds v vs Q em2 (RV.ext x2 rv) rvs h2
  · exact h1.elim
/-- a list is rewritten -/
theorem lst_write {K : PySem.W.Frag} {φ : List Addr} {S : Sto} {H : Hp} {l : Nat} {a : Addr} {xs ys : List D} {vs ws : List V} (em : Emb K G φ S H) (es : S[l]? = some (.lst xs)) (ha : φ[l]? = some a) (e1 : H a = some (.lst vs)) (rv : RVs K G H φ ys ws) :
    Ext φ H φ (upd H a (.lst ws)) ∧ Emb K G φ (S.set l (.lst ys)) (upd H a (.lst ws)) := by
  have n1 : ∀ xs, HO.lst vs ≠ .tup xs := fun _ z => nomatch z
  have n2 : ∀ ob w, HO.lst vs ≠ .frz ob w := fun _ _ z => nomatch z
  have xa : Ext φ H φ (upd H a (.lst ws)) := .at ha e1 n1 n2
  exact ⟨xa, em.set es ha e1 n1 n2 (.lst upd_same (RVs.ext xa rv))⟩
def lAppend (d : D) (ds : List D) (S : Sto) : Res D := match d, ds with
  | .loc l, [y] => match S[l]? with
    | some (.lst xs) => if xs.length < sizeLine then .ok .non (S.set l (.lst (xs ++ [y]))) else .stuck
    | _ => .stuck
  | _, _ => .stuck
theorem s_append {K : PySem.W.Frag} : MetS K G W lAppend rAppend := by
  intro φ S σ H d ds v vs Q em r rs h
  unfold lAppend at h
  split at h
  · split at h
    · rename_i l y xs es
      split at h
      · rename_i hl
        cases rs with
        | @cons _ yv _ _ ry rn =>
          cases rn
          obtain ⟨a, rfl, ha, ro⟩ := em.at_loc es r
          obtain ⟨ws, e1, rv⟩ := ro.lstM
          obtain ⟨xa, em2⟩ := lst_write em es ha e1 (RVs.append rv (.cons ry .nil))
          exact ⟨a, ws, yv, rfl, rfl, e1, by rw [← RVs.length rv]; exact hl, h φ .non _ xa em2 .non⟩
      · exact h.elim
    · exact h.elim
  · exact h.elim
/-- extend -/
def extO (l : Nat) (xs : List D) (o : Option (List D)) (S : Sto) : Res D := match o with
  | some ys => if xs.length + ys.length ≤ sizeLine then .ok .non (S.set l (.lst (xs ++ ys))) else .stuck
  | none => .stuck
def lExtend (d : D) (ds : List D) (S : Sto) : Res D := match d, ds with
  | .loc l, [m] => match S[l]? with
    | some (.lst xs) => extO l xs (lsmO S m) S
    | _ => .stuck
  | _, _ => .stuck
theorem s_extend {K : PySem.W.Frag} : MetS K G W lExtend rExtend := by
  intro φ S σ H d ds v vs Q em r rs h
  unfold lExtend at h
  split at h
  · split at h
    · rename_i l m xs es
      unfold extO at h
      split at h
      · rename_i ys es2
        split at h
        · rename_i hl
          cases rs with
          | @cons _ yv _ _ ry rn =>
            cases rn
            obtain ⟨a, rfl, ha, ro⟩ := em.at_loc es r
            obtain ⟨b, zs, rfl, e2, rv2⟩ := lsm_ok em ry es2
            obtain ⟨ws, e1, rv⟩ := ro.lstM
            obtain ⟨xa, em2⟩ := lst_write em es ha e1 (RVs.append rv rv2)
            exact ⟨a, b, ws, zs, rfl, rfl, e1, e2, by rw [← RVs.length rv, ← RVs.length rv2]; exact hl, h φ .non _ xa em2 .non⟩
        · exact h.elim
      · exact h.elim
    · exact h.elim
  · exact h.elim
theorem RVs.erase {K : PySem.W.Frag} {H : Hp} {φ : List Addr} : ∀ {ds : List D} {vs : List V} (i : Nat), RVs K G H φ ds vs → RVs K G H φ (ds.eraseIdx i) (vs.eraseIdx i)
  | _, _, _, .nil => .nil
  | _, _, 0, .cons _ b => b
  | _, _, i + 1, .cons a b => .cons a (RVs.erase i b)
def lPopAt (d : D) (ds : List D) (S : Sto) : Res D := match d, ds with
  | .loc l, [.int i] => match S[l]? with
    | some (.lst xs) => if -(2 ^ 63) ≤ i ∧ i < 2 ^ 63 then match seqIndex? i xs.length with
      | some j => match xs[j]? with
        | some y => .ok y (S.set l (.lst (xs.eraseIdx j)))
        | none => .stuck
      | none => .stuck
      else .stuck
    | _ => .stuck
  | _, _ => .stuck
theorem s_popAt {K : PySem.W.Frag} : MetS K G W lPopAt rPopAt := by
  intro φ S σ H d ds v vs Q em r rs h
  unfold lPopAt at h
  split at h
  · split at h
    · rename_i l i xs es
      split at h
      · rename_i hi
        split at h
        · rename_i j hj
          split at h
          · rename_i y hy
            cases rs with
            | cons ry rn =>
              cases rn
              cases ry
              obtain ⟨a, rfl, ha, ro⟩ := em.at_loc es r
              obtain ⟨ws, e1, rv⟩ := ro.lstM
              obtain ⟨w, ew, rw'⟩ := RVs.get rv hy
              obtain ⟨xa, em2⟩ := lst_write em es ha e1 (RVs.erase j rv)
              exact ⟨a, ws, _, j, w, rfl, rfl, e1, hi.1, hi.2, by rw [← RVs.length rv]; exact hj, ew, h φ w _ xa em2 (RV.ext xa rw')⟩
          · exact h.elim
        · exact h.elim
      · exact h.elim
    · exact h.elim
  · exact h.elim
end
/-! ### the end of a law -/
/-- the script as it is handed in -/
def scr (ns : List Int) : D := .cl (ns.map .int)
theorem sp_law {K : PySem.W.Frag} {G : Ga} {mf : MFn} {H : Hp} {a : Addr} {ns : List Int} (hO : Only H) (hS : SqL K H a (ns.map V.int)) (h : ∃ S', mf [scr ns] [] = .ok (.bl true) S') : SpM K G mf 1 [.ref a] H (fun v _ => v = .bl true) fun _ _ _ => False := by
  obtain ⟨S', e⟩ := h
  have ls : LsV K H [] a (ns.map V.int) := by
    rcases hS with (hS | ⟨o, hS⟩) | hS
    · rcases hO a with z | ⟨o, xs, z⟩
      · rw [z] at hS; cases hS
      · rw [z] at hS; cases hS
    · exact .inl ⟨by simp, o, hS⟩
    · exact .inr hS
  refine ⟨[], [], [scr ns], ⟨rfl, fun l l' b e1 e2 => by simp at e1, fun l o b e1 e2 => by simp at e2⟩, .cons (.cl ls RVs.ints pureAll_ints) .nil, rfl, ?_⟩
  rw [e]
  intro φ' v H' _ _ rv
  cases rv
  rfl
end MP

set_option Elab.async false
set_option linter.all false
set_option maxRecDepth 100000
set_option maxHeartbeats 4000000
namespace MP
open PySem L2
section
variable {X : Cx} {G : Ga} {W : WX} {k : Nat}
/-! ### a def that is read off its class by the class's name -/
structure FnU (P : Program) (w : World) (K : PySem.W.Frag) (mg : Str → Option Value) (base : Heap) (G : Ga) (k : Nat) (c : Cl) (m : Str) (mf : MFn) (n : Nat) : Prop where
  ex : ∃ f fd ps, FnOk P w K mg base (L2.CX P w) k f fd ps (SpM K G mf n) ∧ ClX.CRead K (G.cl c) (.type "type") ∧ PySem.W.findCls K (.ref (G.cl c)) (.type "type") m = some (.val (.ref f)) ∧ mg c.nm = some (.ref (G.cl c)) ∧ PySem.W.keepIn K (.ref f) = true ∧ Binds K fd ps []
def tUCall (C : Addr) (sp : Sp) (E : St → XK) (ta : TE) (t : TA) : TE := fun σ H Q => ta σ H fun x H1 => x = .ref C ∧ t σ H1 fun vs H2 => sp vs H2 Q (E σ)
theorem pe_ucall {CX : CXT} {C f : Addr} {fd : FuncData} {ps : List Str} {sp : Sp} {E : St → XK} {m : Str} {o e : Expr} {es : List Expr} {ta : TE} {t : TA} {apos pos : Pos} {pl : Sem Bool} (he : PE X o ta) (r : ClX.CRead X.K C (.type "type")) (c : PySem.W.findCls X.K (.ref C) (.type "type") m = some (.val (.ref f)))
    (F : FnOk X.prog X.w X.K X.mg X.base CX k f fd ps sp) (hr : Room k X.A) (hk : PySem.W.keepIn X.K (.ref f) = true) (hb : Binds X.K fd ps []) (hx : ∀ σ, PassesAt CX X σ (E σ)) (ha : PA X (e :: es) t)
    (hst : starEach (e :: es) X.env = (false, eval e X.env) :: starEach es X.env := by rfl) (hpl : (backTo pos (starEach es X.env)).any (·.1) = false := by rfl)
    (ht : eval (.Call (.Attribute o m apos) (e :: es) [] pos) X.env = (do
      let ov ← eval o X.env
      standAt apos.atName
      let (f, first) ← holding [ov] (getMethod ov m pl)
      callWith pos f first (backTo pos (starEach (e :: es) X.env)) (backToKw pos (keywordEach [] X.env))) := by rfl) :
    PE X (.Call (.Attribute o m apos) (e :: es) [] pos) (tUCall C sp E ta t) := by
  refine ⟨fun pins s σ H Q I h => ?_⟩
  refine PySem.W.methodCall_KW (pl := pl) (thn (he.run pins s σ H _ I h) fun u s1 ⟨x, H1, I1, rx, ex, q⟩ => ?_) ht
  subst ex
  obtain rfl : u = Value.ref C := rx
  refine PySem.W.method_cls I1.kIn r.ga (PySem.W.cls_value I1.kIn r.rd c rfl ?_)
  have I2 := I1.tok (s1.toks + 1)
  refine PySem.W.callWith_K (h₀ := X.base) I1.ok.mod.kin hk (thn (ha.run pos pins _ σ H1 _ I2 q) fun us s3 ⟨vs, H2, I3, rv, q2⟩ => ⟨I3.kIn, ?_⟩) hst hpl
  exact run_fnS F hr hb (hx σ) I3 rv q2
theorem d_ucall {c : Cl} {m : Str} {e : Expr} {es : List Expr} {j n : Nat} {mf : MFn} {ms : MAr} {p apos pos : Pos} {pl : Sem Bool} (F : FnU X.prog X.w X.K X.mg X.base G j c m mf n) (d : DX X G W k) (ha : PA X (e :: es) (wpA X.K G W ms)) (hj : j ≤ k := by decide) (hg : Gl X c.nm := by rfl)
    (hdb : (c.nm == ("__debug__" : Str)) = false := by decide) (hst : starEach (e :: es) X.env = (false, eval e X.env) :: starEach es X.env := by rfl) (hpl : (backTo pos (starEach es X.env)).any (·.1) = false := by rfl)
    (ht : eval (.Call (.Attribute (.Name c.nm p) m apos) (e :: es) [] pos) X.env = (do
      let ov ← eval (.Name c.nm p) X.env
      standAt apos.atName
      let (f, first) ← holding [ov] (getMethod ov m pl)
      callWith pos f first (backTo pos (starEach (e :: es) X.env)) (backToKw pos (keywordEach [] X.env))) := by rfl) :
    PE X (.Call (.Attribute (.Name c.nm p) m apos) (e :: es) [] pos) (wpE X.K G W (mCall n mf ms)) := by
  obtain ⟨f, fd, ps, hF, hc, hfi, hm, hk, hb⟩ := F.ex
  refine pe_conv (pe_ucall (pl := pl) (pe_glob hg hm (v := .ref (G.cl c)) rfl hdb) hc hfi hF (d.hr.mono hj) hk hb (fun σ => passAt d.tk σ) ha hst hpl ht) ?_
  rintro σ H Q ⟨φ, ρ, S, em, rs, h⟩
  refine ⟨rfl, φ, ρ, S, em, rs, h.bind fun ds S1 φ1 vs H1 x em1 rv h1 => ?_⟩
  split at h1
  · rename_i hl
    exact ⟨φ1, S1, ds, em1, rv, hl, h1.resig fun _ _ _ z => z⟩
  · exact h1.elim
/-! ### methods of lists without arguments -/
def Met0 (K : PySem.W.Frag) (G : Ga) (W : WX) (f : D → Sto → Res D) (r : V → List V → Hp → VK → Prop) : Prop :=
  ∀ φ S σ H d v Q, Emb K G φ S H → RV K G H φ d v → outR K G W (rE K G) (f d S) φ σ H Q → r v [] H Q
def mBM0 (p : D → Sto → Bool) (f : D → Sto → Res D) (mo : MEx) : MEx := fun ρ S => (mo ρ S).bind fun d S1 => if p d S1 = true then f d S1 else .stuck
theorem d_bm0 {T id : String} {name : Str} {o : Expr} {f : D → Sto → Res D} {r : V → List V → Hp → VK → Prop} {pp : D → Sto → Bool} {mo : MEx} {apos cpos : Pos} (pa : PlainAttrs T) (slot : Slot T name id) (hty : typeOf (.builtin id) = pure (.type "method_descriptor")) (hm : MtR X id r) (hs : Met0 X.K G W f r)
    (htv : ∀ φ S H d v, Emb X.K G φ S H → RV X.K G H φ d v → pp d S = true → tyV X.K T v H) (ho : PE X o (wpE X.K G W mo)) (hbase : attributeBase o name X.env (eval o X.env) = eval o X.env := by rfl) (hline : (apos.endLine == cpos.line) = true := by rfl) :
    PE X (.Call (.Attribute o name apos) [] [] cpos) (wpE X.K G W (mBM0 pp f mo)) := by
  refine pe_conv (pe_bm0 pa slot hty hm ho hbase hline) ?_
  rintro σ H Q ⟨φ, ρ, S, em, rs, h⟩
  refine ⟨φ, ρ, S, em, rs, h.bind fun d S1 φ1 v H1 x1 em1 rv h1 => ?_⟩
  split at h1
  · rename_i hp
    exact ⟨htv _ _ _ _ _ em1 rv hp, hs φ1 S1 σ H1 d v Q em1 rv h1⟩
  · exact h1.elim
def lClear (d : D) (S : Sto) : Res D := match d with
  | .loc l => match S[l]? with
    | some (.lst _) => .ok .non (S.set l (.lst []))
    | _ => .stuck
  | _ => .stuck
theorem s_clear {K : PySem.W.Frag} : Met0 K G W lClear rClear := by
  intro φ S σ H d v Q em r h
  unfold lClear at h
  split at h
  · split at h
    · rename_i l xs es
      obtain ⟨a, rfl, ha, ro⟩ := em.at_loc es r
      obtain ⟨ws, e1, rv⟩ := ro.lstM
      obtain ⟨xa, em2⟩ := lst_write em es ha e1 (.nil : RVs K G H φ [] [])
      exact ⟨a, ws, rfl, rfl, e1, h φ .non _ xa em2 .non⟩
    · exact h.elim
  · exact h.elim
/-! ### isinstance against an own class -/
structure IsO (K : PySem.W.Frag) (mg : Str → Option Value) (G : Ga) (c : Cl) (tab : List (Cl × Bool)) : Prop where
  nm : mg c.nm = some (.ref (G.cl c))
  ty : ∀ t, t ∈ ["NoneType", "bool", "int", "str", "tuple", "list", "dict"] → PySem.W.kitOne K (.type t) (.ref (G.cl c)) = some false
  hn : PySem.W.specialIn K (.builtin "object.__class__") "__get__" = some (some (.builtin "getset_descriptor.__get__"))
  tk : PySem.W.takesIn K (.builtin "object.__class__") = some true
  own : ∀ c' b, (c', b) ∈ tab → PySem.W.kitOne K (.ref (G.cl c')) (.ref (G.cl c)) = some b ∧ Cls K (G.cl c') ∧ PySem.W.findIn K (.ref (G.cl c')) "__class__" = some (some (.builtin "object.__class__")) ∧ PySem.W.mroIn K (G.cl c') (.type "object") = some true
def isoF (tab : List (Cl × Bool)) (c : Cl) (S : Sto) : Res D := match tab.find? (fun x => decide (x.1 = c)) with
  | some x => .ok (.bl x.2) S
  | none => .stuck
def isoR (tab : List (Cl × Bool)) (d : D) (S : Sto) : Res D := match d.ty S with
  | some _ => .ok (.bl false) S
  | none => match d with
    | .loc l => match S[l]? with
      | some (.ins c _) => isoF tab c S
      | _ => .stuck
    | .vo c _ _ => isoF tab c S
    | _ => .stuck
def mIso (tab : List (Cl × Bool)) (m : MEx) : MEx := fun ρ S => (m ρ S).bind (isoR tab)
theorem ty_in {d : D} {S : Sto} {t : String} (h : d.ty S = some t) : t ∈ ["NoneType", "bool", "int", "str", "tuple", "list", "dict"] := by
  unfold D.ty at h
  split at h <;> first | (cases h; decide) | (cases h; done) | (split at h <;> first | (cases h; decide) | cases h)
theorem d_iso {c : Cl} {tab : List (Cl × Bool)} {e : Expr} {m : MEx} {p p2 pos : Pos} (hmi : X.mg "isinstance" = none) (io : IsO X.K X.mg G c tab) (he : PE X e (wpE X.K G W m)) (hgi : Gl X "isinstance" := by rfl) (hg : Gl X c.nm := by rfl)
    (hdb : (c.nm == ("__debug__" : Str)) = false := by decide) (hs : starEach (e :: [.Name c.nm p2]) X.env = (false, eval e X.env) :: starEach [.Name c.nm p2] X.env := by rfl) (hpl : (backTo pos (starEach [.Name c.nm p2] X.env)).any (·.1) = false := by rfl) :
    PE X (.Call (.Name "isinstance" p) [e, .Name c.nm p2] [] pos) (wpE X.K G W (mIso tab m)) := by
  refine pe_conv (pe_callB call_isi hgi hmi (by decide +kernel) (pa_cons he (pa_cons (pe_glob (v := .ref (G.cl c)) hg io.nm rfl hdb) pa_nil) hs) (by decide) (by decide) hs hpl) ?_
  rintro σ H Q ⟨φ, ρ, S, em, rs, h⟩
  refine ⟨φ, ρ, S, em, rs, h.bind fun d S1 φ1 v H1 x em1 rv h1 => ?_⟩
  unfold isoR at h1
  split at h1
  · rename_i t ht
    exact ⟨v, .ref (G.cl c), .type t, .ref (G.cl c), false, rfl, .own _, ty_ok em1 rv ht, io.ty t (ty_in ht), outR.ok (R := rE X.K G) h1 em1 .bl⟩
  · have fin : ∀ (c' : Cl) a dx fs, v = .ref a → H1 a = some (.ins (G.cl c') dx fs) → outR X.K G W (rE X.K G) (isoF tab c' S1) φ1 σ H1 Q → ∃ x c_1 t u b, [v, V.ref (G.cl c)] = [x, c_1] ∧ ClsV c_1 u ∧ TyX X.K H1 x t ∧ PySem.W.kitOne X.K t u = some b ∧ Q (V.bl b) H1 := by
      intro c' a dx fs ev e1 h2
      unfold isoF at h2
      split at h2
      · rename_i y ey
        obtain ⟨c2, b⟩ := y
        have hc : c2 = c' := by
          have z := List.find?_some (p := fun x : Cl × Bool => decide (x.1 = c')) ey
          exact of_decide_eq_true z
        subst hc
        obtain ⟨k1, k2, k3, k4⟩ := io.own c2 b (List.mem_of_find?_eq_some ey)
        subst ev
        exact ⟨.ref a, .ref (G.cl c), .ref (G.cl c2), .ref (G.cl c), b, rfl, .own _, .base (.ins e1 k2 k3 io.hn io.tk k4), k1, outR.ok (R := rE X.K G) h2 em1 .bl⟩
      · exact h2.elim
    split at h1
    · split at h1
      · rename_i l c' fs es
        obtain ⟨a, rfl, ha, ro⟩ := em1.at_loc es rv
        cases ro with
        | ins e1 rk hh hall => exact fin c' a _ _ rfl e1 h1
      · exact h1.elim
    · cases rv with
      | vo n e1 => exact fin _ _ _ _ rfl e1 h1
    · exact h1.elim
/-! ### a def that calls itself: no depth, no promise -/
theorem ok_never {P : Program} {w : World} {K : PySem.W.Frag} {mg : Str → Option Value} {base : Heap} {k : Nat} {f : Addr} {fd : FuncData} {ps : List Str} {n : Nat} : FnOk P w K mg base (L2.CX P w) k f fd ps (SpM K G (fun _ _ => .stuck) n) :=
  ⟨fun vs H Q E h => by obtain ⟨φ, S, ds, _, _, _, h⟩ := h; exact h.elim, fun A outer s H args us vs Q E _ _ _ _ h => by obtain ⟨φ, S, ds, _, _, _, h⟩ := h; exact h.elim⟩
end
end MP

set_option Elab.async false
set_option linter.all false
set_option maxRecDepth 100000
set_option maxHeartbeats 4000000
namespace MP
open PySem L2
section
variable {X : Cx} {G : Ga} {W : WX} {k : Nat}
/-! ### a tuple of texts at the top of the text -/
structure GlT (K : PySem.W.Frag) (mg : Str → Option Value) (x : Str) (ys : List Str) : Prop where
  ex : ∃ (p : Addr) (its : Array Value) (n : Nat) (sl : Array (Option Value)), mg x = some (.ref p) ∧ K.lookup p = some ⟨.type "tuple", none, .seq its n, sl⟩ ∧ its.size ≤ sizeLine ∧ Vals (ys.map V.str) its.toList
theorem rvs_strs {K : PySem.W.Frag} {H : Hp} {φ : List Addr} : ∀ {ys : List Str}, RVs K G H φ (ys.map D.str) (ys.map V.str)
  | [] => .nil
  | _ :: _ => .cons .str rvs_strs
theorem GlT.c {K : PySem.W.Frag} {G : Ga} {mg : Str → Option Value} {x : Str} {ys : List Str} (g : GlT K mg x ys) : GlC K G mg x (.tup (ys.map .str)) := by
  obtain ⟨p, its, n, sl, h1, h2, h3, h4⟩ := g.ex
  exact ⟨.ref p, .ref p, h1, rfl, fun H φ => .tup (.inr ⟨_, its, n, h2, rfl, rfl, h3, h4⟩) rvs_strs⟩
theorem glc_str {K : PySem.W.Frag} {mg : Str → Option Value} {x z : Str} {t : Tok} (h : mg x = some (.str z t)) : GlC K G mg x (.str z) := ⟨_, .str z, h, ⟨t, rfl⟩, fun _ _ => .str⟩
theorem glc_int {K : PySem.W.Frag} {mg : Str → Option Value} {x : Str} {i : Int} {t : Tok} (h : mg x = some (.int i t)) : GlC K G mg x (.int i) := ⟨_, .int i, h, ⟨t, rfl⟩, fun _ _ => .int⟩
/-- SORTS.index(e) -/
def tIndex (ys : List Str) (ds : List D) (S : Sto) : Res D := match ds with
  | [.str z] => match ys.findIdx? (fun y => decide (y = z)) with
    | some j => .ok (.int (j : Nat)) S
    | none => .stuck
  | _ => .stuck
def mTix (ys : List Str) (ms : MAr) : MEx := fun ρ S => (ms ρ S).bind (tIndex ys)
theorem d_tix {x : Str} {ys : List Str} {e : Expr} {ms : MAr} {p apos cpos : Pos} (g : GlT X.K X.mg x ys) (ha : PA X [e] (wpA X.K G W ms)) (hg : Gl X x := by rfl) (hd : (x == ("__debug__" : Str)) = false := by decide)
    (hbase : attributeBase (.Name x p) "index" X.env (eval (.Name x p) X.env) = eval (.Name x p) X.env := by rfl)
    (hfew : ((backTo cpos (starEach [e] X.env)).all (fun x => !x.1) && (backToKw cpos (keywordEach [] X.env)).all (fun x => x.1.isSome)
      && decide (([e] : List Expr).length + ([] : List Keyword).length + (if ([] : List Keyword).isEmpty then 0 else 1) < 30)) = true := by rfl)
    (hline : (apos.endLine == cpos.line) = true := by rfl) (hst : starEach [e] X.env = (false, eval e X.env) :: starEach [] X.env := by rfl) (hplain : (backTo cpos (starEach [] X.env)).any (·.1) = false := by rfl) :
    PE X (.Call (.Attribute (.Name x p) "index" apos) [e] [] cpos) (wpE X.K G W (mTix ys ms)) := by
  obtain ⟨q, its, n, sl, h1, h2, h3, h4⟩ := g.ex
  refine pe_conv (pe_bm PySem.F.plainAttrs_tuple PySem.F.slot_tuple_index PySem.F.type_tuple_index mt_tup_index (pe_glob hg h1 (v := .ref q) rfl hd) ha hbase hfew hline hst hplain) ?_
  rintro σ H Q ⟨φ, ρ, S, em, rs, h⟩
  refine ⟨.inr (.inl ⟨rfl, _, h2, rfl, rfl⟩), φ, ρ, S, em, rs, h.bind fun ds S1 φ1 vs H1 x1 em1 rvs h1' => ?_⟩
  unfold tIndex at h1'
  split at h1'
  · rename_i z
    split at h1'
    · rename_i j hj
      obtain ⟨hl, e1, e2⟩ := List.findIdx?_eq_some_iff_getElem.mp hj
      cases (show RVs X.K G H1 φ1 _ vs from rvs) with
      | cons a b =>
        cases a; cases b
        refine ⟨q, ys, z, j, rfl, rfl, .inr ⟨_, its, n, h2, rfl, rfl, h3, h4⟩, ?_, ?_, outR.ok (R := rE X.K G) h1' em1 .int⟩
        · rw [List.getElem?_eq_getElem hl, of_decide_eq_true e1]
        · intro m hm z2
          obtain ⟨hl2, e3⟩ := List.getElem?_eq_some_iff.mp z2
          have := e2 m hm
          rw [e3] at this
          simp at this
    · exact h1'.elim
  · exact h1'.elim
/-- xs.index(e), flat things in a list -/
def lIndex (d : D) (ds : List D) (S : Sto) : Res D := match lstO S d, ds with
  | some xs, [y] => if flatD y = true ∧ xs.all flatD = true then match xs.findIdx? (fun z => eqFlat z y) with
      | some j => .ok (.int (j : Nat)) S
      | none => .stuck
      else .stuck
  | _, _ => .stuck
theorem s_index {K : PySem.W.Frag} : MetS K G W lIndex (rIndex K) := by
  intro φ S σ H d ds v vs Q em r rs h
  unfold lIndex at h
  split at h
  · rename_i xs y es
    split at h
    · rename_i hf
      split at h
      · rename_i j hj
        obtain ⟨hl, e1, e2⟩ := List.findIdx?_eq_some_iff_getElem.mp hj
        obtain ⟨a, ws, rfl, sq, rv⟩ := lst_ok em r es
        cases rs with
        | @cons _ yv _ _ ry rn =>
          cases rn
          obtain ⟨z, ez, rz⟩ := RVs.get rv (List.getElem?_eq_getElem hl)
          have hall := List.all_eq_true.mp hf.2
          refine ⟨a, ws, yv, j, z, rfl, rfl, sq, flat_ok ry hf.1, flat_all rv hf.2, ez, ?_, ?_, outR.ok (R := rE K G) h em .int⟩
          · rw [eqFlat_ok rz ry (hall _ (List.getElem_mem hl)) hf.1]; exact e1
          · intro m z' hm ez'
            have hm2 : m < xs.length := by omega
            obtain ⟨z2, ez2, rz2⟩ := RVs.get rv (List.getElem?_eq_getElem hm2)
            rw [ez'] at ez2
            cases ez2
            rw [eqFlat_ok rz2 ry (hall _ (List.getElem_mem hm2)) hf.1]
            exact Bool.eq_false_iff.mpr (e2 m hm)
      · exact h.elim
    · exact h.elim
  · exact h.elim
end
end MP

set_option Elab.async false
set_option linter.all false
set_option maxRecDepth 100000
set_option maxHeartbeats 4000000
namespace MP
open PySem L2
section
variable {X : Cx} {G : Ga} {W : WX} {k : Nat}
/-! ### dicts of ints and texts -/
def keyD : D → Option Key
  | .int i => some (.inl i)
  | .str z => some (.inr z)
  | _ => none
def valD (kvs : List (Key × D)) (k : Key) : Option D := (kvs.find? fun kv => decide (kv.1 = k)).map (·.2)
def putD (kvs : List (Key × D)) (k : Key) (v : D) : List (Key × D) :=
  if (kvs.any fun kv => decide (kv.1 = k)) = true then kvs.map (fun kv => if kv.1 = k then (kv.1, v) else kv) else kvs ++ [(k, v)]
def dropD (kvs : List (Key × D)) (k : Key) : List (Key × D) := kvs.filter fun kv => decide (kv.1 ≠ k)
theorem keyD_ok {K : PySem.W.Frag} {H : Hp} {φ : List Addr} {d : D} {v : V} {k : Key} (r : RV K G H φ d v) (h : keyD d = some k) : v = kV k := by
  cases r <;> cases h <;> rfl
theorem RKs.val {K : PySem.W.Frag} {H : Hp} {φ : List Addr} {kvs : List (Key × D)} {vs : List (Key × V)} (r : RKs K G H φ id kvs vs) (k : Key) : (∀ d, valD kvs k = some d → ∃ v, valV vs k = some v ∧ RV K G H φ d v) ∧ (valD kvs k = none → valV vs k = none) := by
  induction r with
  | nil => exact ⟨fun d h => (by cases h), fun _ => rfl⟩
  | @cons k' d' v' ds vs a b ih =>
    by_cases hk : k' = k
    · constructor
      · intro d h
        have e : valD ((k', d') :: ds) k = some d' := by simp [valD, List.find?_cons, hk]
        rw [e] at h
        cases h
        exact ⟨v', by simp [valV, List.find?_cons, hk], a⟩
      · intro h
        simp [valD, List.find?_cons, hk] at h
    · have e1 : valD ((k', d') :: ds) k = valD ds k := by simp [valD, List.find?_cons, hk]
      have e2 : valV ((id k', v') :: vs) k = valV vs k := by simp [valV, List.find?_cons, hk]
      rw [e1, e2]
      exact ih
theorem RKs.any {K : PySem.W.Frag} {H : Hp} {φ : List Addr} {kvs : List (Key × D)} {vs : List (Key × V)} (r : RKs K G H φ id kvs vs) (k : Key) : (kvs.any fun kv => decide (kv.1 = k)) = (vs.any fun kv => decide (kv.1 = k)) := by
  induction r with
  | nil => rfl
  | @cons k' d' v' ds vs a b ih =>
    rw [List.any_cons, List.any_cons, ih]
    rfl
theorem RKs.mapPut {K : PySem.W.Frag} {H : Hp} {φ : List Addr} (k : Key) {d : D} {v : V} (q : RV K G H φ d v) : ∀ {kvs : List (Key × D)} {vs : List (Key × V)}, RKs K G H φ id kvs vs →
    RKs K G H φ id (kvs.map fun kv => if kv.1 = k then (kv.1, d) else kv) (vs.map fun kv => if kv.1 = k then (kv.1, v) else kv)
  | _, _, .nil => .nil
  | _, _, .cons (k := k2) a b => by
    have ih := RKs.mapPut k q b
    rw [List.map_cons, List.map_cons]
    by_cases hk : k2 = k
    · simp only [hk, id, if_true]
      exact .cons (f := id) q ih
    · simp only [hk, id, if_false]
      exact .cons (f := id) a ih
theorem RKs.snoc {K : PySem.W.Frag} {H : Hp} {φ : List Addr} (k : Key) {d : D} {v : V} (q : RV K G H φ d v) : ∀ {kvs : List (Key × D)} {vs : List (Key × V)}, RKs K G H φ id kvs vs → RKs K G H φ id (kvs ++ [(k, d)]) (vs ++ [(k, v)])
  | _, _, .nil => .cons (f := id) q .nil
  | _, _, .cons a b => .cons a (RKs.snoc k q b)
theorem RKs.putK {K : PySem.W.Frag} {H : Hp} {φ : List Addr} {kvs : List (Key × D)} {vs : List (Key × V)} (r : RKs K G H φ id kvs vs) (k : Key) {d : D} {v : V} (q : RV K G H φ d v) : RKs K G H φ id (putD kvs k d) (L2.putK vs k v) := by
  unfold putD L2.putK
  rw [r.any k]
  split
  · exact RKs.mapPut k q r
  · exact RKs.snoc k q r
theorem RKs.drop {K : PySem.W.Frag} {H : Hp} {φ : List Addr} (k : Key) : ∀ {kvs : List (Key × D)} {vs : List (Key × V)}, RKs K G H φ id kvs vs → RKs K G H φ id (dropD kvs k) (dropK vs k)
  | _, _, .nil => .nil
  | _, _, .cons (k := k2) a b => by
    have ih := RKs.drop k b
    unfold dropD dropK at ih ⊢
    by_cases hk : k2 = k
    · rw [List.filter_cons_of_neg (by simp [hk]), List.filter_cons_of_neg (by simp [hk])]
      exact ih
    · rw [List.filter_cons_of_pos (by simp [hk]), List.filter_cons_of_pos (by simp [hk])]
      exact .cons a ih
/-- a dict as it may be read -/
def dctO (S : Sto) (d : D) : Option (List (Key × D)) := match d with
  | .vd ks xs => some (ks.zip xs)
  | .loc l => match S[l]? with
    | some (.dct _ kvs) => some kvs
    | _ => none
  | _ => none
theorem dct_ok {K : PySem.W.Frag} {φ : List Addr} {S : Sto} {H : Hp} (em : Emb K G φ S H) {d : D} {v : V} {kvs : List (Key × D)} (r : RV K G H φ d v) (h : dctO S d = some kvs) : ∃ p vs, v = .ref p ∧ Rd H p (.dK vs) ∧ RKs K G H φ id kvs vs := by
  unfold dctO at h
  split at h
  · cases h
    cases r with
    | vd n q e s p => exact ⟨_, _, rfl, .inl q, RKs.zip (by rw [e, List.map_id]) s⟩
  · split at h
    · rename_i fz ys e
      cases h
      obtain ⟨a, rfl, _, ro⟩ := em.at_loc e r
      cases ro with
      | dct e1 rk => exact ⟨_, _, rfl, .inl e1, rk⟩
      | dctF e1 rk => exact ⟨_, _, rfl, .inr ⟨_, e1⟩, rk⟩
    · cases h
  · cases h
def lkO (o : Option (List (Key × D))) (k : Option Key) (S : Sto) : Res D := match o, k with
  | some kvs, some k => match valD kvs k with
    | some x => .ok x S
    | none => .stuck
  | _, _ => .stuck
def dGet (o i : D) (S : Sto) : Res D := lkO (dctO S o) (keyD i) S
theorem d_dget {a b : Expr} {ma mb : MEx} {pos : Pos} (d : DX X G W k) (ha : PE X a (wpE X.K G W ma)) (hb : PE X b (wpE X.K G W mb)) (hs : NoSl b := by exact fun _ _ => rfl) : PE X (.Subscript a b pos) (wpE X.K G W (mOp2 dGet ma mb)) := by
  refine pe_conv (pe_dget (by have := d.hr.units; omega) ha hb hs) ?_
  rintro σ H Q ⟨φ, ρ, S, em, rs, h⟩
  refine ⟨φ, ρ, S, em, rs, h.bind fun x S1 φ1 v1 H1 x1 em1 r1 h1 => ?_⟩
  refine ⟨φ1, ρ, S1, em1, rs.ext x1, h1.bind fun y S2 φ2 v2 H2 x2 em2 r2 h2 => ?_⟩
  have r1' := RV.ext x2 r1
  unfold dGet lkO at h2
  split at h2
  · rename_i kvs k es hk
    split at h2
    · rename_i z ez
      obtain ⟨a', vs, rfl, rd, rk⟩ := dct_ok em2 r1' es
      obtain ⟨w, ew, rw'⟩ := (rk.val k).1 z ez
      exact ⟨a', w, rfl, .inl ⟨_, k, rd, keyD_ok r2 hk, ew.symm⟩, outR.ok (R := rE X.K G) h2 em2 rw'⟩
    · exact h2.elim
  · exact h2.elim
/-- {} -/
def mDct : MEx := fun _ S => .ok (.loc S.length) (S ++ [.dct false []])
theorem d_dct {pos : Pos} : PE X (.Dict [] [] pos) (wpE X.K G W mDct) := by
  refine pe_conv pe_dnewK ?_
  rintro σ H Q ⟨φ, ρ, S, em, rs, h⟩ p hp
  refine h (φ ++ [p]) (.ref p) _ (.new hp) (em.new hp (.dct upd_same .nil)) (.loc ?_)
  rw [← em.len]
  simp
/-- d[k] = v -/
def dPut (o i v : D) (S : Sto) : Option Sto := match o, keyD i with
  | .loc l, some k => match S[l]? with
    | some (.dct false kvs) => if kvs.length < sizeLine then some (S.set l (.dct false (putD kvs k v))) else none
    | _ => none
  | _, _ => none
def sDPutM (mo mi mv : MEx) : MSt := fun ρ S => (mv ρ S).st ρ fun v S1 => (mo ρ S1).st ρ fun o S2 => (mi ρ S2).st ρ fun i S3 => nxO ρ (dPut o i v S3)
theorem s_dput {o i value : Expr} {mo mi mv : MEx} {pos pos' : Pos} (d : DX X G W k) (ho : PE X o (wpE X.K G W mo)) (hi : PE X i (wpE X.K G W mi)) (hv : PE X value (wpE X.K G W mv))
    (hs : swapsWith value (some (.Subscript o i pos')) pos.line X.env = pure false := by rfl) : PS X (.Assign [.Subscript o i pos'] value pos) (wpS X.K G W (sDPutM mo mi mv)) := by
  refine ps_conv (ps_dput (by have := d.hr.units; omega) ho hi hv hs) ?_
  rintro D σ H ⟨φ, ρ, S, em, rs, h⟩
  refine ⟨φ, ρ, S, em, rs, outR.st rs h fun v S1 φ1 y H1 x em1 rv h1 => ?_⟩
  refine ⟨φ1, ρ, S1, em1, rs.ext x, outR.st (rs.ext x) h1 fun o' S2 φ2 y2 H2 x2 em2 rv2 h2 => ?_⟩
  refine ⟨φ2, ρ, S2, em2, (rs.ext x).ext x2, outR.st ((rs.ext x).ext x2) h2 fun i' S3 φ3 y3 H3 x3 em3 rv3 h3 => ?_⟩
  have rv2' := RV.ext x3 rv2
  have rv' := RV.ext x3 (RV.ext x2 rv)
  unfold dPut at h3
  split at h3
  · rename_i l k hk
    split at h3
    · rename_i kvs es
      split at h3
      · rename_i hl
        obtain ⟨a, rfl, ha, ro⟩ := em3.at_loc es rv2'
        cases ro with
        | dct e1 rk =>
          rename_i vs
          have n1 : ∀ xs, HO.dK vs ≠ .tup xs := fun _ z => nomatch z
          have n2 : ∀ ob w, HO.dK vs ≠ .frz ob w := fun _ _ z => nomatch z
          have xa : Ext φ3 H3 φ3 (upd H3 a (.dK (L2.putK vs k y))) := .at ha e1 n1 n2
          have em4 := em3.set (o := .dct false (putD kvs k v)) (ho := .dK (L2.putK vs k y)) es ha e1 n1 n2 (.dct upd_same (((rk.putK k rv')).ext xa))
          exact ⟨a, _, rfl, .inl ⟨vs, k, e1, keyD_ok rv3 hk, by rw [← rk.length]; exact hl, rfl⟩, h3 φ3 _ _ xa em4 ((((rs.ext x).ext x2).ext x3).ext xa)⟩
      · exact h3.elim
    · exact h3.elim
  · exact h3.elim
/-! ### two readings of a test -/
theorem pt_or2 {e : Expr} {t t' : TT} (h : PT X e t) (h' : PT X e t') : PT X e (fun σ H Q => t σ H Q ∨ t' σ H Q) := ⟨fun pins s σ H Q I ht => ht.elim (h.run pins s σ H Q I) (h'.run pins s σ H Q I)⟩
def tAltM (a b : MTs) : MTs := fun ρ S => match a ρ S with
  | .stuck => b ρ S
  | r => r
theorem t_alt {e : Expr} {a b : MTs} (ha : PT X e (wpT X.K G W a)) (hb : PT X e (wpT X.K G W b)) : PT X e (wpT X.K G W (tAltM a b)) := by
  refine pt_conv (pt_or2 ha hb) ?_
  rintro σ H Q ⟨φ, ρ, S, em, rs, h⟩
  unfold tAltM at h
  cases q : a ρ S with
  | ok d S' => rw [q] at h; exact .inl ⟨φ, ρ, S, em, rs, by rw [q]; exact h⟩
  | exc d S' => rw [q] at h; exact .inl ⟨φ, ρ, S, em, rs, by rw [q]; exact h⟩
  | stuck => rw [q] at h; exact .inr ⟨φ, ρ, S, em, rs, h⟩
/-! ### is the key in -/
def inO (neg : Bool) (o : Option (List (Key × D))) (k : Option Key) (S : Sto) : Res D := match o, k with
  | some kvs, some k => .ok (.bl (if neg then !(valD kvs k).isSome else (valD kvs k).isSome)) S
  | _, _ => .stuck
def dIn (neg : Bool) (x y : D) (S : Sto) : Res D := inO neg (dctO S y) (keyD x) S
theorem din_core {K : PySem.W.Frag} {neg : Bool} {φ : List Addr} {S : Sto} {σ : St} {H : Hp} {d1 d2 : D} {v1 v2 : V} {Q : VK} (em : Emb K G φ S H) (r1 : RV K G H φ d1 v1) (r2 : RV K G H φ d2 v2) (h : outR K G W (rE K G) (dIn neg d1 d2 S) φ σ H Q) :
    ∃ a o, v2 = .ref a ∧ DGet H a v1 o ∧ Q (.bl (if neg then !o.isSome else o.isSome)) H := by
  unfold dIn inO at h
  split at h
  · rename_i kvs k es hk
    obtain ⟨a, vs, rfl, rd, rk⟩ := dct_ok em r2 es
    have key : (valD kvs k).isSome = (valV vs k).isSome := by
      cases e : valD kvs k with
      | none => rw [(rk.val k).2 e]; rfl
      | some z => obtain ⟨w, ew, _⟩ := (rk.val k).1 z e; rw [ew]; rfl
    rw [key] at h
    exact ⟨a, _, rfl, .inl ⟨_, k, rd, keyD_ok r1 hk, rfl⟩, outR.ok (R := rE K G) h em .bl⟩
  · exact h.elim
theorem din_conv {K : PySem.W.Frag} {ma mb : MEx} (σ : St) (H : Hp) (Q : VK) (h : wpE K G W (mOp2 (dIn false) ma mb) σ H Q) : tDIn (wpE K G W ma) (wpE K G W mb) σ H Q := by
  obtain ⟨φ, ρ, S, em, rs, h⟩ := h
  refine ⟨φ, ρ, S, em, rs, h.bind fun x S1 φ1 v1 H1 x1 em1 r1 h1 => ?_⟩
  refine ⟨φ1, ρ, S1, em1, rs.ext x1, h1.bind fun y S2 φ2 v2 H2 x2 em2 r2 h2 => ?_⟩
  exact din_core em2 (RV.ext x2 r1) r2 h2
theorem dnin_conv {K : PySem.W.Frag} {ma mb : MEx} (σ : St) (H : Hp) (Q : VK) (h : wpE K G W (mOp2 (dIn true) ma mb) σ H Q) : tDNotIn (wpE K G W ma) (wpE K G W mb) σ H Q := by
  obtain ⟨φ, ρ, S, em, rs, h⟩ := h
  refine ⟨φ, ρ, S, em, rs, h.bind fun x S1 φ1 v1 H1 x1 em1 r1 h1 => ?_⟩
  refine ⟨φ1, ρ, S1, em1, rs.ext x1, h1.bind fun y S2 φ2 v2 H2 x2 em2 r2 h2 => ?_⟩
  exact din_core em2 (RV.ext x2 r1) r2 h2
theorem d_din {a b : Expr} {ma mb : MEx} {pos : Pos} (d : DX X G W k) (ha : PE X a (wpE X.K G W ma)) (hb : PE X b (wpE X.K G W mb)) (hm : behindInMarks .In b = false := by rfl) : PE X (.Compare a [.In] [b] pos) (wpE X.K G W (mOp2 (dIn false) ma mb)) :=
  pe_conv (pe_cmp (pc_din (by have := d.hr.units; omega) ha hb) hm) din_conv
theorem d_dnin {a b : Expr} {ma mb : MEx} {pos : Pos} (d : DX X G W k) (ha : PE X a (wpE X.K G W ma)) (hb : PE X b (wpE X.K G W mb)) (hm : behindInMarks .NotIn b = false := by rfl) : PE X (.Compare a [.NotIn] [b] pos) (wpE X.K G W (mOp2 (dIn true) ma mb)) :=
  pe_conv (pe_cmp (pc_dnotin (by have := d.hr.units; omega) ha hb) hm) dnin_conv
theorem t_din {a b : Expr} {ma mb : MEx} {pos : Pos} (d : DX X G W k) (ha : PE X a (wpE X.K G W ma)) (hb : PE X b (wpE X.K G W mb)) (hm : behindInMarks .In b = false := by rfl) : PT X (.Compare a [.In] [b] pos) (wpT X.K G W (mTest (mOp2 (dIn false) ma mb))) :=
  pt_conv (pt_cmp (pc_din (by have := d.hr.units; omega) ha hb) hm) (test din_conv)
theorem t_dnin {a b : Expr} {ma mb : MEx} {pos : Pos} (d : DX X G W k) (ha : PE X a (wpE X.K G W ma)) (hb : PE X b (wpE X.K G W mb)) (hm : behindInMarks .NotIn b = false := by rfl) : PT X (.Compare a [.NotIn] [b] pos) (wpT X.K G W (mTest (mOp2 (dIn true) ma mb))) :=
  pt_conv (pt_cmp (pc_dnotin (by have := d.hr.units; omega) ha hb) hm) (test dnin_conv)
/-! ### sorted, of ints -/
def insI (a : Int) : List Int → List Int
  | [] => [a]
  | b :: l => if a ≤ b then a :: b :: l else b :: insI a l
def sortI : List Int → List Int
  | [] => []
  | a :: l => insI a (sortI l)
theorem insI_perm (a : Int) : ∀ l : List Int, (insI a l).Perm (a :: l)
  | [] => .refl _
  | b :: l => by
    unfold insI
    split
    · exact .refl _
    · exact (List.Perm.cons b (insI_perm a l)).trans (List.Perm.swap a b l)
theorem sortI_perm : ∀ l : List Int, (sortI l).Perm l
  | [] => .refl _
  | a :: l => (insI_perm a (sortI l)).trans (List.Perm.cons a (sortI_perm l))
theorem insI_sorted (a : Int) : ∀ l : List Int, l.Pairwise (· ≤ ·) → (insI a l).Pairwise (· ≤ ·)
  | [], _ => List.pairwise_singleton _ _
  | b :: l, h => by
    unfold insI
    have h2 := List.pairwise_cons.mp h
    split
    · rename_i hab
      refine List.pairwise_cons.mpr ⟨fun c hc => ?_, h⟩
      rcases List.mem_cons.mp hc with rfl | hc
      · exact hab
      · exact Int.le_trans hab (h2.1 c hc)
    · rename_i hab
      refine List.pairwise_cons.mpr ⟨fun c hc => ?_, insI_sorted a l h2.2⟩
      rcases List.mem_cons.mp ((insI_perm a l).mem_iff.mp hc) with rfl | hc
      · omega
      · exact h2.1 c hc
theorem sortI_sorted : ∀ l : List Int, (sortI l).Pairwise (· ≤ ·)
  | [] => List.Pairwise.nil
  | a :: l => insI_sorted a _ (sortI_sorted l)
theorem sorted_uniq : ∀ (xs ys : List Int), xs.Perm ys → xs.Pairwise (· ≤ ·) → ys.Pairwise (· ≤ ·) → xs = ys
  | [], ys, p, _, _ => (List.Perm.nil_eq p)
  | x :: xs, [], p, _, _ => absurd p.length_eq (by simp)
  | x :: xs, y :: ys, p, h1, h2 => by
    have a1 := List.pairwise_cons.mp h1
    have a2 := List.pairwise_cons.mp h2
    have hx : x ∈ y :: ys := p.mem_iff.mp List.mem_cons_self
    have hy : y ∈ x :: xs := p.mem_iff.mpr List.mem_cons_self
    have e : x = y := by
      rcases List.mem_cons.mp hx with z | z
      · exact z
      · rcases List.mem_cons.mp hy with w | w
        · exact w.symm
        · exact Int.le_antisymm (a1.1 y w) (a2.1 x z)
    subst e
    rw [sorted_uniq xs ys (List.Perm.cons_inv p) a1.2 a2.2]
def intsOf : List D → Option (List Int) := optAll fun d => match d with
  | .int i => some i
  | _ => none
theorem intsOf_ok : ∀ {xs : List D} {ns : List Int}, intsOf xs = some ns → xs = ns.map .int
  | [], _, h => by cases h; rfl
  | x :: xs, ns, h => by
    unfold intsOf optAll at h
    split at h
    · rename_i y ys e1 e2
      cases h
      have ih := intsOf_ok (xs := xs) (ns := ys) e2
      rw [List.map_cons, ← ih]
      cases x <;> first | (cases e1; rfl) | cases e1
    · cases h
theorem rvs_ints {K : PySem.W.Frag} {H : Hp} {φ : List Addr} : ∀ {ns : List Int} {vs : List V}, RVs K G H φ (ns.map D.int) vs → vs = ns.map V.int
  | [], _, r => by cases r; rfl
  | n :: ns, _, r => by
    cases (show RVs K G H φ (D.int n :: ns.map D.int) _ from r) with
    | cons a b => cases a; rw [rvs_ints b]; rfl
theorem ints_rvs {K : PySem.W.Frag} {H : Hp} {φ : List Addr} : ∀ {ns : List Int}, RVs K G H φ (ns.map D.int) (ns.map V.int)
  | [] => .nil
  | _ :: _ => .cons .int ints_rvs
/-! ### sorted, of a list of ints or of a dict with int keys -/
def intKeys : List (Key × D) → Option (List Int)
  | [] => some []
  | (.inl i, _) :: r => (intKeys r).map (i :: ·)
  | (.inr _, _) :: _ => none
theorem intKeys_ok {K : PySem.W.Frag} {H : Hp} {φ : List Addr} : ∀ {kvs : List (Key × D)} {vs : List (Key × V)} {ks : List Int}, RKs K G H φ id kvs vs → intKeys kvs = some ks → vs.map (·.1) = ks.map Sum.inl
  | _, _, _, .nil, h => by cases h; rfl
  | _, _, _, .cons (k := k2) a b, h => by
    cases k2 with
    | inl i =>
      unfold intKeys at h
      obtain ⟨ks, e, rfl⟩ := Option.map_eq_some_iff.mp h
      rw [List.map_cons, List.map_cons, intKeys_ok b e]
      rfl
    | inr z => cases h
def rSortedDI : List V → Hp → VK → Prop := fun xs H Q => ∃ (a : Addr) (kvs : List (Key × V)) (ks : List Int), xs = [.ref a] ∧ Rd H a (.dK kvs) ∧ kvs.map (·.1) = ks.map Sum.inl ∧
    ∀ (ys : List Int) (p : Addr), ys.Perm ks → ys.Pairwise (· ≤ ·) → H p = none → Q (.ref p) (upd H p (.lst (ys.map V.int)))
open PySem.Spec PyProof.Rows in
/-- sorted(d) of a dict whose keys are all ints, any number of them -/
theorem call_sortedDIU {X : Cx} (hcalm : X.calm = true) : CallR X (.builtin "sorted") rSortedDI := by
  intro pins s σ H xs us Q I r q
  obtain ⟨a, kvs, ks, ex, hd, hks, q⟩ := q
  subst ex
  obtain ⟨u, eu, rx⟩ := vals1 r
  subst eu
  cases rx
  obtain ⟨z, lo, vs, rel, dd⟩ := dk_rd I.hok hd
  obtain ⟨ep, hat⟩ := dd.dictAt
  have hkeys : vs.map (·.1) = ks.map Sum.inl := rel.keys.symm.trans hks
  have hl : vs.length = ks.length := by
    have e := congrArg List.length hkeys
    rw [List.length_map, List.length_map] at e
    exact e
  have h16 : vs.length ≤ sizeLine := by rw [← rel.length]; exact z
  refine Calls.call_function_entry PyProof.Rows.kind_sorted PyProof.Rows.plain_sorted PyProof.Rows.entry_sorted (PyProof.Rows.args_sorted1 _) ?_
  unfold Builtin.«sorted»
  refine wpAny_bind (m := checkCount "sorted" 1 1 _) (wpAny_pure ?_)
  refine wpAny_bind (PySem.W.kdu_collect (A := X.A.in1) (PySem.W.kdl_dict (knd := mixKind X.prog X.w) (kvs := vs) (ep := ep) lo) (I.ok.hd hcalm) hat h16 fun h' tk acc hk hacc => ?_)
  have hal : acc.toList.length = ks.length := by rw [Array.length_toList, hacc.1, hl]
  have hz : acc.toList.length ≤ sizeLine := by rw [hal, ← hl]; exact h16
  have hS : IntsAre acc.toList ks := ints_each hal fun j v e => by
    obtain ⟨k, x, e1, e2⟩ := hacc.2 j v (by rw [← Array.getElem?_toList]; exact e)
    have e3 : (vs.map (·.1))[j]? = some k := by rw [List.getElem?_map, e1]; rfl
    rw [hkeys, List.getElem?_map] at e3
    cases e4 : ks[j]? with
    | none => rw [e4] at e3; cases e3
    | some y =>
      rw [e4] at e3
      have e5 : Sum.inl y = k := Option.some.inj e3
      subst e5
      rcases keyIs_shape (show keyIs (Sum.inl y) v = true from e2) with ⟨i, t, ek, ev⟩ | ⟨z, t, ek, ev⟩
      · cases ek
        exact ⟨y, t, rfl, ev⟩
      · cases ek
  have I1 : Inv X pins σ H { s with heap := h', toks := tk } := I.kept hk
  refine wpAny_bind (wpAny_newList ?_ hz)
  have hoL : (h'.push (seqObj "list" acc.toList.toArray 0)).get? h'.objs.size = some (seqObj "list" acc.toList.toArray 0) := Heap.get?_push_size _ rfl
  show wpAny _ _ _ _ _ { s with heap := h'.push (seqObj "list" acc.toList.toArray 0), toks := tk }
  refine wpAny_bind (wpAny_holding (wpAny_call_entry PyProof.Rows.slot_list_sort ⟨_, hoL, rfl⟩ PyProof.Rows.entry_list_sort
    (SrtO.list_sort_ord SrtO.swo_int (s := { s with heap := h'.push (seqObj "list" acc.toList.toArray 0), toks := tk }) hoL hz (fun h2 => SrtO.ints_sortable hS h2) fun out h1 h2 => ⟨_, rfl, ?_⟩) (PyProof.Rows.args_list_sort _)))
  obtain ⟨k1, k2, k3⟩ := SrtO.ints_out hS h1 h2
  obtain ⟨e', he'⟩ := PyProof.Rows.sortedHeap_at (vs := acc.toList) (out := out.toArray) hoL
  have hlen : ((out.map SrtO.iv).map V.int).length ≤ sizeLine := by
    rw [List.length_map, k2.length_eq, ← hal]
    exact hz
  refine wpAny_pure ⟨_, rfl, .ref h'.objs.size, upd H h'.objs.size (.lst ((out.map SrtO.iv).map V.int)), I1.laid (t' := tk) (fun b u e => ?_) (Nat.le_refl _)
    (show ObjOk X.prog X.w _ _ _ (.lst ((out.map SrtO.iv).map V.int)) from ⟨hlen, out, e', vals_of_ints k1, he'⟩), rfl, q _ _ k2 k3 (I1.hok.fresh (Nat.le_refl _))⟩
  have hb : b < h'.objs.size := Heap.lt_size e
  rw [PyProof.Rows.sortedHeap_old (Nat.ne_of_lt hb) (by rw [size_push']; exact Nat.lt_succ_of_lt hb)]
  exact Heap.get?_push_of_some _ e
def rSortU (K : PySem.W.Frag) : List V → Hp → VK → Prop := fun xs H Q => rSortedI K xs H Q ∨ rSortedDI xs H Q
theorem cr_sortU (d : DX X G W k) : CallR X (.builtin "sorted") (rSortU X.K) := cr_sortedI.or (call_sortedDIU d.calm)
def sortO (tr : Bool) (xs : Option (List D)) (kvs : Option (List (Key × D))) (S : Sto) : Res D := match xs, kvs with
  | some xs, _ => match intsOf xs with
    | some ns => newL tr ((sortI ns).map .int) S
    | none => .stuck
  | none, some kvs => match intKeys kvs with
    | some ks => newL tr ((sortI ks).map .int) S
    | none => .stuck
  | _, _ => .stuck
def cSort (tr : Bool) (ds : List D) (S : Sto) : Res D := match ds with
  | [d] => sortO tr (lstO S d) (dctO S d) S
  | _ => .stuck
theorem s_sortU {K : PySem.W.Frag} {tr : Bool} : CallS K G W (cSort tr) (rSortU K) := by
  intro φ S σ H ds vs Q em r h
  unfold cSort at h
  split at h
  · rename_i d
    cases r with
    | @cons _ v _ _ a b =>
      cases b
      unfold sortO at h
      split at h
      · rename_i xs es
        split at h
        · rename_i ns e
          obtain ⟨p, ws, rfl, sq, rv⟩ := lst_ok em a es
          rw [intsOf_ok e] at rv
          rw [rvs_ints rv] at sq
          refine .inl ⟨p, ns, rfl, sq, fun ns' q pm so hq => ?_⟩
          rw [sorted_uniq ns' (sortI ns) (pm.trans (sortI_perm ns).symm) so (sortI_sorted ns)]
          exact h.newL em ints_rvs hq
        · exact h.elim
      · rename_i kvs _ es
        split at h
        · rename_i ks e
          obtain ⟨p, ws, rfl, rd, rk⟩ := dct_ok em a es
          have fin : ∀ (ns' : List Int) (q : Addr), ns'.Perm ks → ns'.Pairwise (· ≤ ·) → H q = none → Q (.ref q) (upd H q (.lst (ns'.map V.int))) := fun ns' q pm so hq => by
            rw [sorted_uniq ns' (sortI ks) (pm.trans (sortI_perm ks).symm) so (sortI_sorted ks)]
            exact h.newL em ints_rvs hq
          exact .inr ⟨p, _, ks, rfl, rd, intKeys_ok rk e, fin⟩
        · exact h.elim
      · exact h.elim
  · exact h.elim
/-! ### list(x), of a list, a tuple, or a dict's keys -/
def keyOf : Key → D
  | .inl i => .int i
  | .inr z => .str z
theorem keys_rvs {K : PySem.W.Frag} {H : Hp} {φ : List Addr} : ∀ {kvs : List (Key × D)} {vs : List (Key × V)}, RKs K G H φ id kvs vs → RVs K G H φ (kvs.map fun kv => keyOf kv.1) (vs.map fun kv => kV kv.1)
  | _, _, .nil => .nil
  | _, _, .cons (k := k2) a b => by
    refine .cons ?_ (keys_rvs b)
    cases k2 <;> constructor
def rListU (K : PySem.W.Frag) : List V → Hp → VK → Prop := fun xs H Q => (∃ p ys, xs = [.ref p] ∧ (SqL K H p ys ∨ SqT K H p ys) ∧ ∀ l, H l = none → Q (.ref l) (upd H l (.lst ys))) ∨
  (∃ (a : Addr) (kvs : List (Key × V)), xs = [.ref a] ∧ Rd H a (.dK kvs) ∧ ∀ p, H p = none → Q (.ref p) (upd H p (.lst (kvs.map fun kv => kV kv.1))))
theorem cr_listU (d : DX X G W k) : CallR X (.type "list") (rListU X.K) := call_list_of.or (call_listD d.calm)
def listO (tr : Bool) (xs : Option (List D)) (kvs : Option (List (Key × D))) (S : Sto) : Res D := match xs, kvs with
  | some xs, _ => newL tr xs S
  | none, some kvs => newL tr (kvs.map fun kv => keyOf kv.1) S
  | _, _ => .stuck
def cListU (tr : Bool) (ds : List D) (S : Sto) : Res D := match ds with
  | [d] => listO tr (items S d) (dctO S d) S
  | _ => .stuck
theorem s_listU {K : PySem.W.Frag} {tr : Bool} : CallS K G W (cListU tr) (rListU K) := by
  intro φ S σ H ds vs Q em r h
  unfold cListU at h
  split at h
  · rename_i d
    cases r with
    | @cons _ v _ _ a b =>
      cases b
      unfold listO at h
      split at h
      · rename_i xs es
        obtain ⟨p, ws, rfl, hs, rv⟩ := items_ok em a es
        exact .inl ⟨p, ws, rfl, hs, fun l hl => h.newL em rv hl⟩
      · rename_i kvs _ es
        obtain ⟨p, ws, rfl, rd, rk⟩ := dct_ok em a es
        exact .inr ⟨p, _, rfl, rd, fun q hq => h.newL em (keys_rvs rk) hq⟩
      · exact h.elim
  · exact h.elim
end
end MP

set_option Elab.async false
set_option linter.all false
set_option maxRecDepth 100000
set_option maxHeartbeats 4000000
namespace MP
open PySem L2
section
variable {X : Cx} {G : Ga} {W : WX} {k : Nat}
/-! ### out of a lock -/
structure WK (K : PySem.W.Frag) (φ : List Addr) (H H' : Hp) : Prop where
  tup : ∀ b xs, SqT K H b xs → SqT K H' b xs
  out : ∀ b u, b ∉ φ → H b = some u → H' b = some u
section
variable {K : PySem.W.Frag} {H H' : Hp} {φ : List Addr}
mutual
theorem RV.wk {d : D} {v : V} (t : WK K φ H H') (h : RV K G H φ d v) : RV K G H' φ d v := by
  cases h with
  | non => exact .non
  | bl => exact .bl
  | int => exact .int
  | str => exact .str
  | tup q r => exact .tup (t.tup _ _ q) (RVs.wk t r)
  | vl n q r p => exact .vl n (t.out _ _ n q) (RVs.wk t r) p
  | cl q r p => exact .cl (q.imp (fun z => ⟨z.1, let ⟨o, w⟩ := z.2; ⟨o, t.out _ _ z.1 w⟩⟩) id) (RVs.wk t r) p
  | vd n q e r p => exact .vd n (t.out _ _ n q) e (RVs.wk t r) p
  | vo n q hh e r o p => exact .vo n (t.out _ _ n q) hh e (RVs.wk t r) o p
  | xv0 n q => exact .xv0 n (t.out _ _ n q)
  | xv1 n q m e r p => exact .xv1 n (t.out _ _ n q) m (t.out _ _ m e) (RV.wk t r) p
  | loc e => exact .loc e
theorem RVs.wk {ds : List D} {vs : List V} (t : WK K φ H H') (h : RVs K G H φ ds vs) : RVs K G H' φ ds vs := by
  cases h with
  | nil => exact .nil
  | cons a b => exact .cons (RV.wk t a) (RVs.wk t b)
end
theorem RKs.wk {κ κ' : Type} {f : κ → κ'} {ds : List (κ × D)} {vs : List (κ' × V)} (t : WK K φ H H') (h : RKs K G H φ f ds vs) : RKs K G H' φ f ds vs := by
  induction h with
  | nil => exact .nil
  | cons a b ih => exact .cons (a.wk t) ih
end
theorem wk_unlock {K : PySem.W.Frag} {φ : List Addr} {H : Hp} {l : Nat} {a : Addr} {od : Obj} {vs : List (Key × V)} (ha : φ[l]? = some a) (h : H a = some (.frz od (.dK vs))) : WK K φ H (upd H a (.dK vs)) := by
  refine ⟨fun b xs q => ?_, fun b u n e => by rw [upd_ne (fun z => n (by rw [z]; exact List.mem_of_getElem? ha))]; exact e⟩
  by_cases hb : b = a
  · subst hb
    rcases q with (q | ⟨o, q⟩) | q
    · rw [h] at q; cases q
    · rw [h] at q; cases q
    · exact .inr q
  · rcases q with (q | ⟨o, q⟩) | q
    · exact .inl (.inl (by rw [upd_ne hb]; exact q))
    · exact .inl (.inr ⟨o, by rw [upd_ne hb]; exact q⟩)
    · exact .inr q
theorem Emb.unlock {K : PySem.W.Frag} {φ : List Addr} {S : Sto} {H : Hp} {l : Nat} {a : Addr} {od : Obj} {kvs : List (Key × D)} {vs : List (Key × V)} (em : Emb K G φ S H) (es : S[l]? = some (.dct true kvs)) (ha : φ[l]? = some a) (h : H a = some (.frz od (.dK vs))) :
    Emb K G φ (S.set l (.dct false kvs)) (upd H a (.dK vs)) := by
  have hl : l < S.length := (List.getElem?_eq_some_iff.mp es).1
  have wk : WK K φ H (upd H a (.dK vs)) := wk_unlock ha h
  refine ⟨by simp [em.len], em.nd, fun i o' b hS e => ?_⟩
  by_cases hi : l = i
  · subst hi
    rw [List.getElem?_set_self hl] at hS
    cases hS
    rw [ha] at e
    cases e
    have q := em.ob l _ a es ha
    cases q with
    | dctF e1 rk =>
      rw [h] at e1
      cases e1
      exact .dct upd_same (rk.wk wk)
  · rw [List.getElem?_set_ne hi] at hS
    have q := em.ob i o' b hS e
    have hb : b ≠ a := fun z => hi (em.nd l i a ha (by rw [← z]; exact e))
    cases q with
    | lst e1 r1 => exact .lst (by rw [upd_ne hb]; exact e1) (r1.wk wk)
    | dct e1 r1 => exact .dct (by rw [upd_ne hb]; exact e1) (r1.wk wk)
    | dctF e1 r1 => exact .dctF (by rw [upd_ne hb]; exact e1) (r1.wk wk)
    | ins e1 r1 h1 h2 => exact .ins (by rw [upd_ne hb]; exact e1) (r1.wk wk) h1 h2
/-- from ahead of the lock to behind it -/
theorem Ext.around {φ φ' : List Addr} {H H' : Hp} {l : Nat} {a : Addr} {od : Obj} {vs : List (Key × V)} (ha : φ[l]? = some a) (h : H a = some (.dK vs)) (x : Ext φ (upd H a (.frz od (.dK vs))) φ' H') : Ext φ H φ' (upd H' a (.dK vs)) := by
  have ina : a ∈ φ := List.mem_of_getElem? ha
  refine ⟨x.1, ⟨fun b xs e => ?_, fun b o u e => ?_⟩, fun b u n e => ?_, fun b z n => ?_⟩
  · have hb : b ≠ a := by rintro rfl; rw [h] at e; cases e
    rw [upd_ne hb]
    exact x.2.tup b xs (by rw [upd_ne hb]; exact e)
  · have hb : b ≠ a := by rintro rfl; rw [h] at e; cases e
    rw [upd_ne hb]
    exact x.2.frz b o u (by rw [upd_ne hb]; exact e)
  · have hb : b ≠ a := by rintro rfl; exact n ina
    rw [upd_ne hb]
    exact x.out b u n (by rw [upd_ne hb]; exact e)
  · have hb : b ≠ a := by rintro rfl; exact n ina
    have := x.frs b z n
    rw [upd_ne hb] at this
    exact this
/-! ### for k in d, d a name -/
theorem RS.wk {K : PySem.W.Frag} {φ : List Addr} {ρ : Rho} {σ : St} {H H' : Hp} (t : WK K φ H H') (r : RS K G φ ρ σ H) : RS K G φ ρ σ H' :=
  ⟨r.len, fun i d e => by obtain ⟨v, h1, h2⟩ := r.at_ i d e; exact ⟨v, h1, h2.wk t⟩⟩
def kyGet (l : Nat) : Nat → Sto → Option (Option D) := fun i S => match S[l]? with
  | some (.dct true kvs) => some (kvs[i]?.map fun kv => keyOf kv.1)
  | _ => none
def itK (d : D) (S : Sto) : Option MIt := match d with
  | .loc l => match S[l]? with
    | some (.dct true kvs) => some ⟨kyGet l, kvs.length + 1⟩
    | _ => none
  | _ => none
def miK (m : MEx) : MIx := fun ρ S => (m ρ S).it itK
theorem RKs.get {K : PySem.W.Frag} {H : Hp} {φ : List Addr} : ∀ {kvs : List (Key × D)} {vs : List (Key × V)} {i : Nat} {k : Key} {d : D}, RKs K G H φ id kvs vs → kvs[i]? = some (k, d) → ∃ v, vs[i]? = some (k, v) ∧ RV K G H φ d v
  | _, _, _, _, _, .nil, e => by simp at e
  | _, _, 0, _, _, .cons (v := v) a _, e => by simp at e; obtain ⟨rfl, rfl⟩ := e; exact ⟨v, rfl, a⟩
  | _, _, i + 1, _, _, .cons _ b, e => by
    rw [List.getElem?_cons_succ] at e
    obtain ⟨v, h1, h2⟩ := RKs.get b e
    exact ⟨v, by rw [List.getElem?_cons_succ]; exact h1, h2⟩
theorem it_keys {K : PySem.W.Frag} {l m : Nat} {φ0 : List Addr} {H0 : Hp} {a : Addr} {o : Obj} {vs : List (Key × V)} (ha : φ0[l]? = some a) (h0 : H0 a = some (.frz o (.dK vs))) : ItOk K G ⟨kyGet l, m⟩ (Itk a o vs) φ0 H0 := by
  intro i φ S H x em
  show match kyGet l i S with | none => True | some none => _ | some (some d) => _
  have ha' := pre_get x.1 ha
  have h' := x.2.frz a o _ h0
  unfold kyGet
  cases es : S[l]? with
  | none => trivial
  | some ob =>
    cases ob with
    | lst _ => trivial
    | ins _ _ => trivial
    | dct fz kvs =>
      cases fz with
      | false => trivial
      | true =>
        have ro := em.ob l _ a es ha'
        cases ro with
        | dctF e1 rk =>
          rw [h'] at e1
          cases e1
          dsimp only
          cases ek : kvs[i]? with
          | none => exact ⟨h', by rw [← rk.length]; exact List.getElem?_eq_none_iff.mp ek⟩
          | some kv =>
            obtain ⟨k, d⟩ := kv
            obtain ⟨v, ev, rv⟩ := rk.get ek
            refine ⟨⟨h', (List.getElem?_eq_some_iff.mp ev).1⟩, ?_⟩
            rintro y H' ⟨rfl, k', v', e2, rfl⟩
            rw [ev] at e2
            cases e2
            refine ⟨.refl, em, ?_⟩
            cases k <;> constructor
theorem i_keys {tg e : Expr} {m : MEx} (he : PE X e (wpE X.K G W m)) : PI X tg e (wpI X.K G W (miK m)) := by
  refine pi_conv (pi_keys he) ?_
  rintro σ H R ⟨φ, ρ, S, em, rs, h⟩
  refine ⟨φ, ρ, S, em, rs, ?_⟩
  unfold miK Res.it at h
  cases q : m ρ S with
  | stuck => rw [q] at h; exact h
  | exc e S' => rw [q] at h; exact h
  | ok d S1 =>
    rw [q] at h
    intro φ1 v H1 x1 em1 rv
    simp only [Res.bind_ok] at h
    unfold itK at h
    split at h
    · rename_i it S2 hh
      split at hh
      · rename_i it' e1
        split at e1
        · rename_i l
          split at e1
          · rename_i kvs es
            cases e1
            cases hh
            obtain ⟨a, rfl, ha, ro⟩ := em1.at_loc es rv
            cases ro with
            | dctF e2 rk => exact ⟨a, _, rfl, .inl ⟨_, e2, h φ1 _ H1 x1 em1 (it_keys ha e2)⟩⟩
          · cases e1
        · cases e1
      · cases hh
    · rename_i hh; split at hh <;> cases hh
    · exact h.elim
def unl (l : Nat) (r : SR) : SR := match r with
  | .nx ρ S => match S[l]? with
    | some (.dct true kvs) => .nx ρ (S.set l (.dct false kvs))
    | _ => .stuck
  | .rt d S => match S[l]? with
    | some (.dct true kvs) => .rt d (S.set l (.dct false kvs))
    | _ => .stuck
  | _ => .stuck
def sForD (i : Nat) (t : Tg) (b : MSt) : MSt := fun ρ S => match ρ[i]? with
  | some (some (.loc l)) => match S[l]? with
    | some (.dct false kvs) => unl l (sFor (miK (mVar i)) t b ρ (S.set l (.dct true kvs)))
    | _ => .stuck
  | _ => .stuck
theorem s_forD {i : Nat} {tg : Expr} {y : Str} {p : Pos} {body : List Stmt} {t : Tg} {mb : MSt} {pos : Pos} (d : DX X G W k) (hv : PE X (.Name y p) (wpE X.K G W (mVar i))) (hg : PG X tg (gTg X.K t)) (hb : PSs X body (wpS X.K G W mb))
    (hs : ∀ x, foldedSetIterable (.Name y p) X.env x = pure x := by intro _; rfl) : PS X (.For tg (.Name y p) body [] pos) (wpS X.K G W (sForD i t mb)) := by
  refine ps_conv (ps_lock (s_for d (i_keys hv) hg hb hs)) ?_
  rintro D σ H ⟨φ, ρ, S, em, rs, h⟩
  unfold sForD at h
  split at h
  · rename_i l hi
    split at h
    · rename_i kvs es
      obtain ⟨v, hv1, rv⟩ := rs.at_ i _ hi
      obtain ⟨a, rfl, ha, ro⟩ := em.at_loc es rv
      cases ro with
      | dct e1 rk =>
        rename_i vs
        refine ⟨a, .dK vs, e1, ?_, fun od => ?_⟩
        · exact True.intro
        · have n1 : ∀ xs, HO.dK vs ≠ .tup xs := fun _ z => nomatch z
          have n2 : ∀ ob w, HO.dK vs ≠ .frz ob w := fun _ _ z => nomatch z
          have xa : Ext φ H φ (upd H a (.frz od (.dK vs))) := .at ha e1 n1 n2
          have em2 := em.set (o := .dct true kvs) (ho := .frz od (.dK vs)) es ha e1 n1 n2 (.dctF upd_same (rk.ext xa))
          refine ⟨φ, ρ, _, em2, rs.ext xa, ?_⟩
          cases q : sFor (miK (mVar i)) t mb ρ (S.set l (.dct true kvs)) with
          | nx ρ' S' =>
            rw [q] at h
            simp only [unl] at h
            split at h
            · rename_i kvs' es'
              intro φ' σ' H' x' em' rs'
              have hz := x'.2.frz a od _ upd_same
              exact ⟨hz, h φ' σ' _ (Ext.around ha e1 x') (em'.unlock es' (pre_get x'.1 ha) hz) (rs'.wk (wk_unlock (pre_get x'.1 ha) hz))⟩
            · exact h.elim
          | rt d' S' =>
            rw [q] at h
            simp only [unl] at h
            split at h
            · rename_i kvs' es'
              intro φ' v' H' x' em' rv'
              have hz := x'.2.frz a od _ upd_same
              exact ⟨hz, h φ' v' _ (Ext.around ha e1 x') (em'.unlock es' (pre_get x'.1 ha) hz) (rv'.wk (wk_unlock (pre_get x'.1 ha) hz))⟩
            · exact h.elim
          | bk ρ' S' => rw [q] at h; exact h.elim
          | ct ρ' S' => rw [q] at h; exact h.elim
          | xc e ρ' S' => rw [q] at h; exact h.elim
          | stuck => rw [q] at h; exact h.elim
    · exact h.elim
  · exact h.elim
end
end MP

set_option Elab.async false
set_option linter.all false
set_option maxRecDepth 100000
set_option maxHeartbeats 4000000
namespace MP
open PySem L2
section
variable {X : Cx} {G : Ga} {W : WX} {k : Nat}
/-! ### an object of a class without __init__ -/
open PySem.W in
theorem pe_make00 {C : Addr} {x : Str} {p pos : Pos} (hm : PySem.W.makesIn X.K C = true) (hi : PySem.W.findIn X.K (.ref C) "__init__" = some (some (.builtin "object.__init__"))) (kp : PySem.W.keepIn X.K (.ref C) = true) (hg : Gl X x) (hmg : X.mg x = some (.ref C))
    (hdb : (x == ("__debug__" : Str)) = false := by decide) : PE X (.Call (.Name x p) [] [] pos) (fun σ H Q => ∀ x dx, H x = none → H dx = none → dx ≠ x → Q (.ref x) (upd (upd H dx (.own x)) x (.ins C dx []))) := by
  refine ⟨fun pins s σ H Q I h => ?_⟩
  refine wpAny_Call_Name_kw (ld_glob I hg hmg ?_ hdb)
  have I2 := Inv.made (C := C) I
  have hq := h (s.heap.objs.size + 1) s.heap.objs.size (I.hok.fresh (Nat.le_succ _)) (I.hok.fresh (Nat.le_refl _)) (Nat.ne_of_lt (Nat.lt_succ_self _))
  refine PySem.W.callWith_K0 I.kIn kp (wpAny_call (make_map0 I.kIn hm hi (fun self => Looks.of_pure (PySem.W.oi_bind self)) ?_))
  obtain ⟨hh, g, d, t, os⟩ := s
  have Y := makes_of (M := model X.prog X.w) I.kIn hm
  have e2 : ((hh.push PySem.W.emptyDict).push (PySem.W.instObj C hh.objs.size)).get? (hh.objs.size + 1) = some (PySem.W.instObj C hh.objs.size) := by
    have := Heap.get?_push_size (hh.push PySem.W.emptyDict) (o := PySem.W.instObj C hh.objs.size) rfl
    rwa [Heap.size_push] at this
  have t1 : Looks (model X.prog X.w) ((hh.push emptyDict).push (instObj C hh.objs.size)) (typeOf (.ref (hh.objs.size + 1))) (.ref C) := (Looks.ld e2).andThen .now
  have t2 : Looks (model X.prog X.w) ((hh.push emptyDict).push (instObj C hh.objs.size)) (isInstance (.ref (hh.objs.size + 1)) (.type "object")) true := t1.andThen (Y.top.keeps fun b o e => Heap.get?_push_of_some _ (Heap.get?_push_of_some _ e))
  refine codeAny_call_builtin oi_plain entry_oi (@check_slot (model X.prog X.w) _ _ _ "object.__init__" "object" "__init__" (.ref (hh.objs.size + 1)) [] [] _ oi_kind oi_split t2 (oi_args (.ref (hh.objs.size + 1))) ?_)
  rw [oi_run]
  exact wpAny_pure ⟨rfl, ⟨V.ref (hh.objs.size + 1), _, I2, rfl, hq⟩⟩
/-- a class that is made so -/
structure FnN (K : PySem.W.Frag) (mg : Str → Option Value) (G : Ga) (c : Cl) : Prop where
  ex : PySem.W.makesIn K (G.cl c) = true ∧ PySem.W.findIn K (.ref (G.cl c)) "__init__" = some (some (.builtin "object.__init__")) ∧ PySem.W.keepIn K (.ref (G.cl c)) = true ∧ mg c.nm = some (.ref (G.cl c)) ∧ G.has c = true
/-- a value at once: it has no fields -/
def mMakeN (c : Cl) : MEx := fun _ S => .ok (.vo c [] []) S
theorem d_makeN {c : Cl} {x : Str} {p pos : Pos} (F : FnN X.K X.mg G c) (hx : c.nm = x := by rfl) (hg : Gl X x := by rfl) (hdb : (x == ("__debug__" : Str)) = false := by decide) : PE X (.Call (.Name x p) [] [] pos) (wpE X.K G W (mMakeN c)) := by
  subst hx
  obtain ⟨h1, h2, h3, h4, h5⟩ := F.ex
  refine pe_conv (pe_make00 h1 h2 h3 hg h4 hdb) ?_
  rintro σ H Q ⟨φ, ρ, S, em, rs, h⟩ x dx nx ndx ne
  have n2 : (upd H dx (.own x)) x = none := by rw [upd_ne ne.symm]; exact nx
  have x1 : Ext φ H φ (upd H dx (.own x)) := .other ndx
  have x2 : Ext φ (upd H dx (.own x)) φ (upd (upd H dx (.own x)) x (.ins (G.cl c) dx [])) := .other n2
  refine h φ _ _ (x1.trans x2) ((em.other ndx).other n2) (.vo (fun z => ?_) upd_same h5 rfl .nil rfl rfl)
  obtain ⟨u, e⟩ := em.there z
  rw [nx] at e; cases e
/-! ### one operand -/
def mOp1 (f : D → Sto → Res D) (a : MEx) : MEx := fun ρ S => (a ρ S).bind f
def negD (d : D) (S : Sto) : Res D := match d with
  | .int i => .ok (.int (-i)) S
  | _ => .stuck
theorem d_neg {a : Expr} {ma : MEx} {pos : Pos} (ha : PE X a (wpE X.K G W ma)) : PE X (.UnaryOp .USub a pos) (wpE X.K G W (mOp1 negD ma)) := by
  refine pe_conv (pe_un un_neg ha) ?_
  rintro σ H Q ⟨φ, ρ, S, em, rs, h⟩
  refine ⟨φ, ρ, S, em, rs, h.bind fun d S1 φ1 v H1 x em1 rv h1 => ?_⟩
  cases rv with
  | int => exact ⟨_, rfl, outR.ok (R := rE X.K G) h1 em1 .int⟩
  | _ => exact h1.elim
/-- [..] as a value -/
noncomputable def mLcV (mi : MIx) (t : Tg) (tt : MTs) (me : MEx) (own : List Nat) : MEx := mEx false (mLc mi t tt me own)
theorem d_lcv {e : Expr} {mi : MIx} {t : Tg} {tt : MTs} {me : MEx} {own : List Nat} (h : PE X e (wpE X.K G W (mLc mi t tt me own))) : PE X e (wpE X.K G W (mLcV mi t tt me own)) := d_ex false h
/-- name = [..], a value -/
theorem s_setLcX {i : Nat} {y : Str} {py : Pos} {elt tg iter : Expr} {ifs : List Expr} {scope : Scope} {own : List (Str × Nat)} {pos spos : Pos} {mi : MIx} {t : Tg} {tt : MTs} {me : MEx} (d : DX X G W k) (hi : PI X tg iter (wpI X.K G W mi)) (ok : blkC X.N X.env.scope scope own = true)
    (hsw : swapsWith (.ListComp elt [⟨tg, iter, ifs, 0⟩] scope pos) (some (.Name y py)) spos.line X.env = pure true)
    (hg : ∀ (s : Shared) (H : Hp) (C : Addr) (cl : List (Str × Addr)) (fp : List Addr), DX (X.blk s H scope (compEnvC scope cl C X.env) fp) G W0 k → PG (X.blk s H scope (compEnvC scope cl C X.env) fp) tg (gTg X.K t))
    (htt : ∀ (s : Shared) (H : Hp) (C : Addr) (cl : List (Str × Addr)) (fp : List Addr), DX (X.blk s H scope (compEnvC scope cl C X.env) fp) G W0 k → PTs (X.blk s H scope (compEnvC scope cl C X.env) fp) ifs (wpT X.K G W0 tt))
    (he : ∀ (s : Shared) (H : Hp) (C : Addr) (cl : List (Str × Addr)) (fp : List Addr), DX (X.blk s H scope (compEnvC scope cl C X.env) fp) G W0 k → PE (X.blk s H scope (compEnvC scope cl C X.env) fp) elt (wpE X.K G W0 me))
    (hin : t.ins (own.map (·.2)) = true := by decide) (hy : X.N[i]? = some y := by rfl) (hyl : X.env.scope.names.lookup y = some .local := by rfl) (hs : ∀ x, foldedSetIterable iter X.env x = pure x := by intro _; rfl) :
    PS X (.Assign [.Name y py] (.ListComp elt [⟨tg, iter, ifs, 0⟩] scope pos) spos) (wpS X.K G W (sSet i (mLcV mi t tt me (own.map (·.2))))) := by
  refine ps_conv (ps_setLc (i := i) d.calm d.nd hy hyl hsw hi (blkOk_by ok) (fun s H C cl fp => hg s H C cl fp (d.blk ..)) (fun s H C cl fp => htt s H C cl fp (d.blk ..)) (fun s H C cl fp => he s H C cl fp (d.blk ..)) hs) ?_
  rintro D σ H ⟨φ, ρ, S, em, rs, h⟩
  refine lc_ok (W := W) (fun _ _ _ z => z) hin σ H _ ⟨φ, ρ, S, em, rs, outR.exit em (outR.st rs h fun v S1 φ1 y H1 x em1 rv h1 => ?_)⟩
  exact h1 φ1 _ H1 .refl em1 ((rs.ext x).set i rv)
end
end MP

set_option Elab.async false
set_option linter.all false
set_option maxRecDepth 100000
set_option maxHeartbeats 4000000
namespace MP
open PySem L2
/-! ### the mirrors' steps, one row each (no step looks into what comes behind) -/
section
variable {α : Type} {f : D → D → Sto → Res D} {a b m mo : MEx} {ma mb mc : MTs} {ms : MAr} {ρ ρ' : Rho} {S S' : Sto} {d x y : D} {ds : List D} {e : Ex} {n : Nat} {mf : MFn} {c : Cl} {sa sb : MSt} {is : List Nat} {i : Nat} {t : Tg}
def kVar (o : Option (Option D)) (S : Sto) : Res D := match o with
  | some (some d) => .ok d S
  | _ => .stuck
theorem r_var : mVar i ρ S = kVar ρ[i]? S := by unfold mVar kVar; rfl
theorem kVar_ok : kVar (some (some d)) S = .ok d S := rfl
theorem r_c : mC d ρ S = .ok d S := rfl
def kOpA (r : Res D) (f : D → D → Sto → Res D) (b : MEx) (ρ : Rho) : Res D := r.bind fun x S1 => (b ρ S1).bind fun y S2 => f x y S2
def kOpB (r : Res D) (f : D → D → Sto → Res D) (x : D) : Res D := r.bind fun y S2 => f x y S2
theorem r_op2 : mOp2 f a b ρ S = kOpA (a ρ S) f b ρ := rfl
theorem kOpA_ok : kOpA (.ok x S) f b ρ = kOpB (b ρ S) f x := rfl
theorem kOpA_exc : kOpA (.exc e S) f b ρ = .exc e S := rfl
theorem kOpB_ok : kOpB (.ok y S) f x = f x y S := rfl
theorem kOpB_exc : kOpB (.exc e S) f x = .exc e S := rfl
theorem r_test : mTest m ρ S = (m ρ S).bind asB := rfl
theorem r_asB {k : Bool} : asB (.bl k) S = .ok k S := rfl
def kAnd (r : Res Bool) (b : MTs) (ρ : Rho) : Res Bool := r.bind fun c S1 => if c = true then b ρ S1 else .ok false S1
def kOr (r : Res Bool) (b : MTs) (ρ : Rho) : Res Bool := r.bind fun c S1 => if c = true then .ok true S1 else b ρ S1
def kNot (r : Res Bool) : Res Bool := r.bind fun c S1 => .ok (!c) S1
theorem r_and : tAnd' ma mb ρ S = kAnd (ma ρ S) mb ρ := rfl
theorem r_or : tOr' ma mb ρ S = kOr (ma ρ S) mb ρ := rfl
theorem r_not : tNot' ma ρ S = kNot (ma ρ S) := rfl
theorem kAnd_t : kAnd (.ok true S) mb ρ = mb ρ S := rfl
theorem kAnd_f : kAnd (.ok false S) mb ρ = .ok false S := rfl
theorem kAnd_exc : kAnd (.exc e S) mb ρ = .exc e S := rfl
theorem kOr_t : kOr (.ok true S) mb ρ = .ok true S := rfl
theorem kOr_f : kOr (.ok false S) mb ρ = mb ρ S := rfl
theorem kOr_exc : kOr (.exc e S) mb ρ = .exc e S := rfl
theorem kNot_ok {k : Bool} : kNot (.ok k S) = .ok (!k) S := rfl
theorem kNot_exc : kNot (.exc e S) = .exc e S := rfl
def kMAnd (r : Res D) (b : MEx) (ρ : Rho) : Res D := r.bind fun d S1 => match d with
  | .bl true => b ρ S1
  | .bl false => .ok (.bl false) S1
  | _ => .stuck
def kMOr (r : Res D) (b : MEx) (ρ : Rho) : Res D := r.bind fun d S1 => match d with
  | .bl true => .ok (.bl true) S1
  | .bl false => b ρ S1
  | _ => .stuck
def kMNot (r : Res D) : Res D := r.bind fun d S1 => match d with
  | .bl b => .ok (.bl (!b)) S1
  | _ => .stuck
theorem r_mand : mAnd a b ρ S = kMAnd (a ρ S) b ρ := rfl
theorem r_mor : mOr a b ρ S = kMOr (a ρ S) b ρ := rfl
theorem r_mnot : mNot a ρ S = kMNot (a ρ S) := rfl
theorem kMAnd_t : kMAnd (.ok (.bl true) S) b ρ = b ρ S := rfl
theorem kMAnd_f : kMAnd (.ok (.bl false) S) b ρ = .ok (.bl false) S := rfl
theorem kMOr_t : kMOr (.ok (.bl true) S) b ρ = .ok (.bl true) S := rfl
theorem kMOr_f : kMOr (.ok (.bl false) S) b ρ = b ρ S := rfl
theorem kMNot_ok {k : Bool} : kMNot (.ok (.bl k) S) = .ok (.bl (!k)) S := rfl
def kIfE (r : Res Bool) (a b : MEx) (ρ : Rho) : Res D := r.bind fun t S1 => if t = true then a ρ S1 else b ρ S1
theorem r_ife : mIfE mc a b ρ S = kIfE (mc ρ S) a b ρ := rfl
theorem kIfE_t : kIfE (.ok true S) a b ρ = a ρ S := rfl
theorem kIfE_f : kIfE (.ok false S) a b ρ = b ρ S := rfl
theorem kIfE_exc : kIfE (.exc e S) a b ρ = .exc e S := rfl
theorem r_anil : aNil ρ S = .ok [] S := rfl
def kArg (r : Res D) (ms : MAr) (ρ : Rho) : Res (List D) := r.bind fun d S1 => (ms ρ S1).bind fun ds S2 => .ok (d :: ds) S2
def kArgs (r : Res (List D)) (d : D) : Res (List D) := r.bind fun ds S2 => .ok (d :: ds) S2
theorem r_acons : aCons a ms ρ S = kArg (a ρ S) ms ρ := rfl
theorem kArg_ok : kArg (.ok d S) ms ρ = kArgs (ms ρ S) d := rfl
theorem kArg_exc : kArg (.exc e S) ms ρ = .exc e S := rfl
theorem kArgs_ok : kArgs (.ok ds S) d = .ok (d :: ds) S := rfl
theorem kArgs_exc : kArgs (.exc e S) d = .exc e S := rfl
theorem r_tup : mTup ms ρ S = (ms ρ S).bind tupD := rfl
theorem r_lst {tr : Bool} : mLst tr ms ρ S = (ms ρ S).bind (lstD tr) := rfl
theorem r_fld {f : Fl} : mFld f a ρ S = (a ρ S).bind (getF f) := rfl
def kCall (r : Res (List D)) (n : Nat) (mf : MFn) : Res D := r.bind fun ds S1 => if ds.length = n then mf ds S1 else .stuck
theorem r_call : mCall n mf ms ρ S = kCall (ms ρ S) n mf := rfl
theorem kCall_ok (h : ds.length = n) : kCall (.ok ds S) n mf = mf ds S := if_pos h
theorem kCall_exc : kCall (.exc e S) n mf = .exc e S := rfl
theorem r_call0 : mCall0 mf ρ S = noX (mf [] S) := rfl
theorem noX_ok {u : α} : noX (.ok u S) = .ok u S := rfl
def kM1 (r : Res D) (c : Cl) (n : Nat) (mf : MFn) (ms : MAr) (ρ : Rho) : Res D := r.bind fun d S1 => (selfC c d S1).bind fun _ _ => (ms ρ S1).bind fun ds S2 => if ds.length + 1 = n then mf (d :: ds) S2 else .stuck
def kM2 (r : Res D) (d : D) (n : Nat) (mf : MFn) (ms : MAr) (ρ : Rho) (S : Sto) : Res D := r.bind fun _ _ => (ms ρ S).bind fun ds S2 => if ds.length + 1 = n then mf (d :: ds) S2 else .stuck
def kM3 (r : Res (List D)) (d : D) (n : Nat) (mf : MFn) : Res D := r.bind fun ds S2 => if ds.length + 1 = n then mf (d :: ds) S2 else .stuck
theorem r_meth : mMeth c n mf mo ms ρ S = kM1 (mo ρ S) c n mf ms ρ := rfl
theorem kM1_ok : kM1 (.ok d S) c n mf ms ρ = kM2 (selfC c d S) d n mf ms ρ S := rfl
theorem kM1_exc : kM1 (.exc e S) c n mf ms ρ = .exc e S := rfl
theorem kM2_ok : kM2 (.ok x S') d n mf ms ρ S = kM3 (ms ρ S) d n mf := rfl
theorem kM2_stuck : kM2 .stuck d n mf ms ρ S = .stuck := rfl
theorem kM3_ok (h : ds.length + 1 = n) : kM3 (.ok ds S) d n mf = mf (d :: ds) S := if_pos h
theorem kM3_exc : kM3 (.exc e S) d n mf = .exc e S := rfl
def kN1 (r : Res D) (c : Cl) (mf : MFn) : Res D := r.bind fun d S1 => (selfC c d S1).bind fun _ _ => noX (mf [d] S1)
def kN2 (r : Res D) (d : D) (mf : MFn) (S : Sto) : Res D := r.bind fun _ _ => noX (mf [d] S)
theorem r_meth0 : mMeth0 c mf mo ρ S = kN1 (mo ρ S) c mf := rfl
theorem kN1_ok : kN1 (.ok d S) c mf = kN2 (selfC c d S) d mf S := rfl
theorem kN1_exc : kN1 (.exc e S) c mf = .exc e S := rfl
theorem kN2_ok : kN2 (.ok x S') d mf S = noX (mf [d] S) := rfl
theorem kN2_stuck : kN2 .stuck d mf S = .stuck := rfl
theorem selfC_ok {l : Nat} {fs : List (Fl × D)} (h : S[l]? = some (.ins c fs)) : selfC c (.loc l) S = .ok (.loc l) S := by unfold selfC; simp only [h, if_true]
theorem selfC_no {l : Nat} {c' : Cl} {fs : List (Fl × D)} (h : S[l]? = some (.ins c' fs)) (hc : c' ≠ c) : selfC c (.loc l) S = .stuck := by unfold selfC; simp only [h, if_neg hc]
def kMake (r : Res (List D)) (c : Cl) (n : Nat) (mf : MFn) : Res D := r.bind fun ds S1 => if ds.length + 1 = n then mkEnd S1.length (mf (.loc S1.length :: ds) (S1 ++ [.ins c []])) else .stuck
theorem r_make : mMake c n mf ms ρ S = kMake (ms ρ S) c n mf := rfl
theorem kMake_ok (h : ds.length + 1 = n) : kMake (.ok ds S) c n mf = mkEnd S.length (mf (.loc S.length :: ds) (S ++ [.ins c []])) := if_pos h
theorem mkEnd_ok {l : Nat} : mkEnd l (.ok .non S) = .ok (.loc l) S := rfl
theorem r_cb {g : List D → Sto → Res D} : mCB g ms ρ S = (ms ρ S).bind g := rfl
theorem r_isi {T : String} : mIsi T a ρ S = (a ρ S).bind (isiR T) := rfl
theorem isiR_ok {T u : String} (h : d.ty S = some u) : isiR T d S = .ok (.bl (isT u T)) S := by unfold isiR; simp only [h]
def kBM1 (r : Res D) (p : D → Sto → Bool) (g : D → List D → Sto → Res D) (ms : MAr) (ρ : Rho) : Res D := r.bind fun d S1 => if p d S1 = true then (ms ρ S1).bind fun ds S2 => g d ds S2 else .stuck
def kBM2 (r : Res (List D)) (g : D → List D → Sto → Res D) (d : D) : Res D := r.bind fun ds S2 => g d ds S2
theorem r_bm {p : D → Sto → Bool} {g : D → List D → Sto → Res D} : mBM p g mo ms ρ S = kBM1 (mo ρ S) p g ms ρ := rfl
theorem kBM1_ok {p : D → Sto → Bool} {g : D → List D → Sto → Res D} (h : p d S = true) : kBM1 (.ok d S) p g ms ρ = kBM2 (ms ρ S) g d := if_pos h
theorem kBM2_ok {g : D → List D → Sto → Res D} : kBM2 (.ok ds S) g d = g d ds S := rfl
def kAlt (r : Res D) (b : MEx) (ρ : Rho) (S : Sto) : Res D := match r with
  | .stuck => b ρ S
  | r => r
theorem r_alt : mAlt a b ρ S = kAlt (a ρ S) b ρ S := rfl
theorem kAlt_ok : kAlt (.ok d S') b ρ S = .ok d S' := rfl
theorem kAlt_exc : kAlt (.exc e S') b ρ S = .exc e S' := rfl
theorem kAlt_stuck : kAlt .stuck b ρ S = b ρ S := rfl
def kSl1 (tr : Bool) (r : Res D) (ml mh : MPt) (ρ : Rho) : Res D := r.bind fun o S1 => (ml ρ S1).bind fun lo S2 => (mh ρ S2).bind fun hi S3 => slD' tr o lo hi S3
def kSl2 (tr : Bool) (r : Res (Option Int)) (o : D) (mh : MPt) (ρ : Rho) : Res D := r.bind fun lo S2 => (mh ρ S2).bind fun hi S3 => slD' tr o lo hi S3
def kSl3 (tr : Bool) (r : Res (Option Int)) (o : D) (lo : Option Int) : Res D := r.bind fun hi S3 => slD' tr o lo hi S3
theorem r_sl {tr : Bool} {ml mh : MPt} : mSl' tr mo ml mh ρ S = kSl1 tr (mo ρ S) ml mh ρ := rfl
theorem kSl1_ok {tr : Bool} {ml mh : MPt} : kSl1 tr (.ok d S) ml mh ρ = kSl2 tr (ml ρ S) d mh ρ := rfl
theorem kSl2_ok {tr : Bool} {lo : Option Int} {mh : MPt} : kSl2 tr (.ok lo S) d mh ρ = kSl3 tr (mh ρ S) d lo := rfl
theorem kSl3_ok {tr : Bool} {lo hi : Option Int} : kSl3 tr (.ok hi S) d lo = slD' tr d lo hi S := rfl
theorem r_ptN : ptNone ρ S = .ok none S := rfl
theorem r_ptS : ptSome m ρ S = (m ρ S).bind optI := rfl
theorem optI_ok {j : Int} : optI (.int j) S = .ok (some j) S := rfl
/-! statements -/
theorem r_nil : sNil ρ S = .nx ρ S := rfl
def kSeq (r : SR) (b : MSt) : SR := match r with
  | .nx ρ' S' => b ρ' S'
  | r => r
theorem r_seq : sSeq sa sb ρ S = kSeq (sa ρ S) sb := by unfold sSeq kSeq; rfl
theorem kSeq_nx : kSeq (.nx ρ S) sb = sb ρ S := rfl
theorem kSeq_rt : kSeq (.rt d S) sb = .rt d S := rfl
theorem kSeq_xc : kSeq (.xc e ρ S) sb = .xc e ρ S := rfl
theorem kSeq_bk : kSeq (.bk ρ S) sb = .bk ρ S := rfl
theorem kSeq_ct : kSeq (.ct ρ S) sb = .ct ρ S := rfl
def kClr (r : SR) (is : List Nat) : SR := match r with
  | .nx ρ' S' => .nx (clr is ρ') S'
  | r => r
theorem r_clr : sClr is sa ρ S = kClr (sa ρ S) is := by unfold sClr kClr; rfl
theorem kClr_nx : kClr (.nx ρ S) is = .nx (clr is ρ) S := rfl
theorem kClr_rt : kClr (.rt d S) is = .rt d S := rfl
theorem kClr_xc : kClr (.xc e ρ S) is = .xc e ρ S := rfl
theorem kClr_bk : kClr (.bk ρ S) is = .bk ρ S := rfl
theorem kClr_ct : kClr (.ct ρ S) is = .ct ρ S := rfl
theorem clr_nil : clr [] ρ = ρ := rfl
theorem clr_cons : clr (i :: is) ρ = (clr is ρ).set i none := rfl
def kSet (r : Res D) (i : Nat) (ρ : Rho) : SR := r.st ρ fun d S1 => .nx (ρ.set i (some d)) S1
theorem r_set : sSet i m ρ S = kSet (m ρ S) i ρ := rfl
theorem kSet_ok : kSet (.ok d S) i ρ = .nx (ρ.set i (some d)) S := rfl
theorem kSet_exc : kSet (.exc e S) i ρ = .xc e ρ S := rfl
def kExpr (r : Res D) (ρ : Rho) : SR := r.st ρ fun _ S1 => .nx ρ S1
theorem r_expr : sExpr m ρ S = kExpr (m ρ S) ρ := rfl
theorem kExpr_ok : kExpr (.ok d S) ρ = .nx ρ S := rfl
theorem kExpr_exc : kExpr (.exc e S) ρ = .xc e ρ S := rfl
def kRet (r : Res D) (ρ : Rho) : SR := r.st ρ fun d S1 => .rt d S1
theorem r_ret : sRet m ρ S = kRet (m ρ S) ρ := rfl
theorem kRet_ok : kRet (.ok d S) ρ = .rt d S := rfl
theorem kRet_exc : kRet (.exc e S) ρ = .xc e ρ S := rfl
theorem r_retN : sRetN ρ S = .rt .non S := rfl
def kSIf (r : Res Bool) (a b : MSt) (ρ : Rho) : SR := r.st ρ fun t S1 => if t = true then a ρ S1 else b ρ S1
theorem r_if : sIf mc sa sb ρ S = kSIf (mc ρ S) sa sb ρ := rfl
theorem kSIf_t : kSIf (.ok true S) sa sb ρ = sa ρ S := rfl
theorem kSIf_f : kSIf (.ok false S) sa sb ρ = sb ρ S := rfl
theorem kSIf_exc : kSIf (.exc e S) sa sb ρ = .xc e ρ S := rfl
theorem r_brk : sBrk ρ S = .bk ρ S := rfl
theorem r_cont : sCont ρ S = .ct ρ S := rfl
def kFor (r : Res MIt) (t : Tg) (b : MSt) (ρ : Rho) : SR := r.st ρ fun it S1 => forGo it t b it.fuel 0 ρ S1
theorem r_for {mi : MIx} : sFor mi t sb ρ S = kFor (mi ρ S) t sb ρ := rfl
theorem kFor_ok {it : MIt} : kFor (.ok it S) t sb ρ = forGo it t sb it.fuel 0 ρ S := rfl
def kIt (r : Option MIt) (S : Sto) : Res MIt := match r with
  | some it => .ok it S
  | none => .stuck
def kItA {α : Type} (r : Res α) (f : α → Sto → Option MIt) : Res MIt := r.it f
theorem kItA_ok {g : α → Sto → Option MIt} {u : α} : kItA (.ok u S) g = kIt (g u S) S := by unfold kItA Res.it kIt; rfl
theorem kIt_some {it : MIt} : kIt (some it) S = .ok it S := rfl
theorem r_itL : miL m ρ S = kItA (m ρ S) itL := rfl
theorem r_itT : miT m ρ S = kItA (m ρ S) itT := rfl
theorem r_itS : miS m ρ S = kItA (m ρ S) itS := rfl
theorem r_itR1 : miR1 ms ρ S = kItA (ms ρ S) itR1 := rfl
theorem r_itR2 : miR2 ms ρ S = kItA (ms ρ S) itR2 := rfl
theorem r_itEn : miEn ms ρ S = kItA (ms ρ S) itEn := rfl
def kAsg (r : Res D) (t : Tg) (ρ : Rho) : SR := r.st ρ fun d S1 => sTgO (tgM t d ρ S1) S1
theorem r_asg : sAsg t m ρ S = kAsg (m ρ S) t ρ := rfl
theorem kAsg_ok : kAsg (.ok d S) t ρ = sTgO (tgM t d ρ S) S := rfl
theorem sTgO_some : sTgO (some ρ) S = .nx ρ S := rfl
theorem tgM_nm : tgM (.nm i) d ρ S = some (ρ.set i (some d)) := rfl
theorem tgM_tp (h : items S d = some ds) (hl : ds.length = is.length) : tgM (.tp is) d ρ S = some (setAllM ρ is ds) := by simp only [tgM, h, if_pos hl]
theorem setAllM_nil : setAllM ρ [] [] = ρ := rfl
theorem setAllM_cons : setAllM ρ (i :: is) (d :: ds) = setAllM (ρ.set i (some d)) is ds := rfl
def kAug1 (o : Option (Option D)) (m : MEx) (f : D → D → Sto → Res D) (i : Nat) (ρ : Rho) (S : Sto) : SR := match o with
  | some (some x) => (m ρ S).st ρ fun y S1 => (f x y S1).st ρ fun z S2 => .nx (ρ.set i (some z)) S2
  | _ => .stuck
def kAug2 (r : Res D) (x : D) (f : D → D → Sto → Res D) (i : Nat) (ρ : Rho) : SR := r.st ρ fun y S1 => (f x y S1).st ρ fun z S2 => .nx (ρ.set i (some z)) S2
theorem r_aug : sAug i f m ρ S = kAug1 ρ[i]? m f i ρ S := by unfold sAug kAug1; rfl
theorem kAug1_ok : kAug1 (some (some x)) m f i ρ S = kAug2 (m ρ S) x f i ρ := rfl
theorem kAug2_ok : kAug2 (.ok y S) x f i ρ = kSet (f x y S) i ρ := rfl
def kFS1 (r : Res D) (f : Fl) (mo : MEx) (ρ : Rho) : SR := r.st ρ fun v S1 => (mo ρ S1).st ρ fun o S2 => nxO ρ (setF f o v S2)
def kFS2 (r : Res D) (f : Fl) (v : D) (ρ : Rho) : SR := r.st ρ fun o S2 => nxO ρ (setF f o v S2)
theorem r_fs {f : Fl} : sFldS f mo m ρ S = kFS1 (m ρ S) f mo ρ := rfl
theorem kFS1_ok {f : Fl} : kFS1 (.ok d S) f mo ρ = kFS2 (mo ρ S) f d ρ := rfl
theorem kFS2_ok {f : Fl} : kFS2 (.ok x S) f d ρ = nxO ρ (setF f x d S) := rfl
theorem nxO_some : nxO ρ (some S) = .nx ρ S := rfl
def kSL1 (r : Res D) (mo mi : MEx) (ρ : Rho) : SR := r.st ρ fun v S1 => (mo ρ S1).st ρ fun o S2 => (mi ρ S2).st ρ fun i S3 => nxO ρ (setI o i v S3)
def kSL2 (r : Res D) (mi : MEx) (v : D) (ρ : Rho) : SR := r.st ρ fun o S2 => (mi ρ S2).st ρ fun i S3 => nxO ρ (setI o i v S3)
def kSL3 (r : Res D) (o v : D) (ρ : Rho) : SR := r.st ρ fun i S3 => nxO ρ (setI o i v S3)
theorem r_sl1 {mi : MEx} : sSetL mo mi m ρ S = kSL1 (m ρ S) mo mi ρ := rfl
theorem kSL1_ok {mi : MEx} : kSL1 (.ok d S) mo mi ρ = kSL2 (mo ρ S) mi d ρ := rfl
theorem kSL2_ok {mi : MEx} : kSL2 (.ok x S) mi d ρ = kSL3 (mi ρ S) x d ρ := rfl
theorem kSL3_ok : kSL3 (.ok y S) x d ρ = nxO ρ (setI x y d S) := rfl
def kFn (r : SR) : Res D := r.fn
theorem r_fnB {N : Nat} : fnB N sb ds S = kFn (sb (ds.map some ++ List.replicate (N - ds.length) none) S) := rfl
theorem kFn_nx : kFn (.nx ρ S) = .ok .non S := rfl
theorem kFn_rt : kFn (.rt d S) = .ok d S := rfl
theorem kFn_xc : kFn (.xc e ρ S) = .exc e S := rfl
def kLc (r : Res MIt) (t : Tg) (tt : MTs) (me : MEx) (own : List Nat) (ρ : Rho) : Res D := r.bind fun it S1 => lcGo it t tt me (clr own ρ) S1.length it.fuel 0 (S1 ++ [.lst []])
theorem r_lc {mi : MIx} {me : MEx} {own : List Nat} : mLc mi t mc me own ρ S = kLc (mi ρ S) t mc me own ρ := rfl
theorem kLc_ok {it : MIt} {me : MEx} {own : List Nat} : kLc (.ok it S) t mc me own ρ = lcGo it t mc me (clr own ρ) S.length it.fuel 0 (S ++ [.lst []]) := rfl
theorem r_yes : tYesM ρ S = .ok true S := rfl
/-! what is read of the store -/
def kTg (o : Option (List D)) (is : List Nat) (ρ : Rho) (S : Sto) : SR := match o with
  | some xs => if xs.length = is.length then .nx (setAllM ρ is xs) S else .stuck
  | none => .stuck
theorem r_tgtp : sTgO (tgM (.tp is) d ρ S) S = kTg (items S d) is ρ S := by
  simp only [tgM]
  generalize items S d = o
  cases o with
  | none => rfl
  | some xs =>
    dsimp only [kTg]
    by_cases h : xs.length = is.length
    · rw [if_pos h, if_pos h]; rfl
    · rw [if_neg h, if_neg h]; rfl
theorem kTg_ok (h : ds.length = is.length) : kTg (some ds) is ρ S = .nx (setAllM ρ is ds) S := if_pos h
def kLst (o : Option O) : Option (List D) := match o with
  | some (.lst xs) => some xs
  | _ => none
theorem r_lstO {l : Nat} : lstO S (.loc l) = kLst S[l]? := by unfold lstO kLst; rfl
theorem lstO_vl : lstO S (.vl ds) = some ds := rfl
theorem lstO_cl : lstO S (.cl ds) = some ds := rfl
theorem lstO_vd {ks : List Key} : lstO S (.vd ks ds) = none := rfl
theorem kLst_ok : kLst (some (.lst ds)) = some ds := rfl
theorem kLst_d {kvs : List (Key × D)} : kLst (some (.dct fz kvs)) = none := rfl
theorem r_lsmO {l : Nat} : lsmO S (.loc l) = kLst S[l]? := by unfold lsmO kLst; rfl
theorem lsmO_vl : lsmO S (.vl ds) = some ds := rfl
theorem r_items {l : Nat} : items S (.loc l) = kLst S[l]? := by unfold items lstO kLst; rfl
theorem r_itemsT : items S (.tup ds) = some ds := rfl
theorem items_vl : items S (.vl ds) = some ds := rfl
theorem items_cl : items S (.cl ds) = some ds := rfl
theorem items_vd {ks : List Key} : items S (.vd ks ds) = none := rfl
def kSelf (o : Option O) (c : Cl) (l : Nat) (S : Sto) : Res D := match o with
  | some (.ins c' _) => if c' = c then .ok (.loc l) S else .stuck
  | _ => .stuck
theorem r_self {l : Nat} : selfC c (.loc l) S = kSelf S[l]? c l S := by unfold selfC kSelf; rfl
theorem self_vo {fs : List Fl} {xs : List D} : selfC c (.vo c fs xs) S = .ok (.vo c fs xs) S := if_pos rfl
theorem self_vo_no {c' : Cl} {fs : List Fl} {xs : List D} (h : c' ≠ c) : selfC c (.vo c' fs xs) S = .stuck := if_neg h
theorem kSelf_ok {fs : List (Fl × D)} {l : Nat} : kSelf (some (.ins c fs)) c l S = .ok (.loc l) S := if_pos rfl
theorem kSelf_no {fs : List (Fl × D)} {l : Nat} {c' : Cl} (h : c' ≠ c) : kSelf (some (.ins c' fs)) c l S = .stuck := if_neg h
def kIsi (o : Option String) (T : String) (d : D) (S : Sto) : Res D := match o with
  | some u => .ok (.bl (isT u T)) S
  | none => .stuck
theorem r_isiR {T : String} : isiR T d S = kIsi (d.ty S) T d S := by unfold isiR kIsi; rfl
theorem kIsi_ok {T u : String} : kIsi (some u) T d S = .ok (.bl (isT u T)) S := rfl
def kTy (o : Option O) : Option String := match o with
  | some (.lst _) => some "list"
  | some (.dct _ _) => some "dict"
  | _ => none
theorem r_ty {l : Nat} : D.ty (.loc l) S = kTy S[l]? := by unfold D.ty kTy; rfl
theorem kTy_l : kTy (some (.lst ds)) = some "list" := rfl
def kGetF (o : Option O) (f : Fl) (S : Sto) : Res D := match o with
  | some (.ins _ fs) => match fs.lookup f with
    | some x => .ok x S
    | none => .stuck
  | _ => .stuck
theorem r_getF {f : Fl} {l : Nat} : getF f (.loc l) S = kGetF S[l]? f S := by unfold getF kGetF; rfl
def kLk (o : Option D) (S : Sto) : Res D := match o with
  | some x => .ok x S
  | none => .stuck
theorem kGetF_ok {f : Fl} {fs : List (Fl × D)} : kGetF (some (.ins c fs)) f S = kLk (fs.lookup f) S := by unfold kGetF kLk; rfl
theorem getF_vo {f : Fl} {fs : List Fl} {xs : List D} : getF f (.vo c fs xs) S = kLk ((fs.zip xs).lookup f) S := by unfold getF kLk; rfl
theorem kLk_ok : kLk (some x) S = .ok x S := rfl
theorem lk_yes {f : Fl} {fs : List (Fl × D)} : List.lookup f ((f, x) :: fs) = some x := by simp [List.lookup]
theorem lk_no {f g : Fl} {fs : List (Fl × D)} (h : (f == g) = false) : List.lookup f ((g, x) :: fs) = List.lookup f fs := by simp only [List.lookup, h]
def kSetF (o : Option O) (f : Fl) (v : D) (l : Nat) (S : Sto) : Option Sto := match o with
  | some (.ins c fs) => if okF c f = true ∧ fs.length < 1000 then some (S.set l (.ins c (putFl f v fs))) else none
  | _ => none
theorem r_setF {f : Fl} {l : Nat} : setF f (.loc l) d S = kSetF S[l]? f d l S := by unfold setF kSetF; rfl
theorem kSetF_ok {f : Fl} {l : Nat} {fs : List (Fl × D)} (h : okF c f = true) (hl : fs.length < 1000) : kSetF (some (.ins c fs)) f d l S = some (S.set l (.ins c (putFl f d fs))) := if_pos ⟨h, hl⟩
def kItL (o : Option O) (l : Nat) : Option MIt := match o with
  | some (.lst xs) => some ⟨lstGet l, xs.length + 1⟩
  | _ => none
theorem r_itLl {l : Nat} : itL (.loc l) S = kItL S[l]? l := by unfold itL kItL; rfl
theorem kItL_ok {l : Nat} : kItL (some (.lst ds)) l = some ⟨lstGet l, ds.length + 1⟩ := rfl
theorem itL_vl : itL (.vl ds) S = some ⟨fixGet ds, ds.length + 1⟩ := rfl
theorem itL_cl : itL (.cl ds) S = some ⟨fixGet ds, ds.length + 1⟩ := rfl
theorem itT_ok : itT (.tup ds) S = some ⟨fixGet ds, ds.length + 1⟩ := rfl
theorem itEn_vl : itEn [.vl ds] S = some ⟨enFix ds, ds.length + 1⟩ := rfl
theorem itEn_cl : itEn [.cl ds] S = some ⟨enFix ds, ds.length + 1⟩ := rfl
theorem isL_some {x : D} (h : lstO S x = some ds) : isL x S = true := by unfold isL; rw [h]; rfl
theorem isL_vl : isL (.vl ds) S = true := rfl
theorem isL_cl : isL (.cl ds) S = true := rfl
def kIsL (o : Option O) : Bool := match o with
  | some (.lst _) => true
  | _ => false
theorem r_isL {l : Nat} : isL (.loc l) S = kIsL S[l]? := by
  (unfold isL; rw [r_lstO]) <;> (generalize S[l]? = o; rcases o with _ | _ | _ | _ <;> rfl)
theorem kIsL_ok : kIsL (some (.lst ds)) = true := rfl
def kApp (o : Option O) (l : Nat) (y : D) (S : Sto) : Res D := match o with
  | some (.lst xs) => if xs.length < sizeLine then .ok .non (S.set l (.lst (xs ++ [y]))) else .stuck
  | _ => .stuck
theorem r_lApp {l : Nat} : lAppend (.loc l) [y] S = kApp S[l]? l y S := by unfold lAppend kApp; rfl
theorem kApp_ok {l : Nat} (h : ds.length < sizeLine) : kApp (some (.lst ds)) l y S = .ok .non (S.set l (.lst (ds ++ [y]))) := if_pos h
theorem ixO_ok {j : Int} : ixO (some ds) j S = kLk (atI ds j) S := by
  (unfold ixO kLk; dsimp only) <;> (generalize atI ds j = o; cases o <;> rfl)
theorem r_getI {l : Nat} {j : Int} : getI (.loc l) (.int j) S = ixO (kLst S[l]?) j S := by rw [← r_lstO]; rfl
theorem getI_vl {j : Int} : getI (.vl ds) (.int j) S = kLk (atI ds j) S := ixO_ok
theorem getI_cl {j : Int} : getI (.cl ds) (.int j) S = kLk (atI ds j) S := ixO_ok
theorem r_getIT {j : Int} : getI (.tup ds) (.int j) S = kLk (atI ds j) S := by
  (unfold getI kLk; dsimp only) <;> (generalize atI ds j = o; cases o <;> rfl)
def kSetI (o : Option O) (j : Int) (v : D) (l : Nat) (S : Sto) : Option Sto := match o with
  | some (.lst xs) => match ixN xs.length j with
    | some n => some (S.set l (.lst (xs.set n v)))
    | none => none
  | _ => none
theorem r_setI {l : Nat} {j : Int} : setI (.loc l) (.int j) d S = kSetI S[l]? j d l S := by unfold setI kSetI; rfl
def kStO (o : Option Nat) (ds : List D) (v : D) (l : Nat) (S : Sto) : Option Sto := match o with
  | some n => some (S.set l (.lst (ds.set n v)))
  | none => none
theorem kSetI_ok {l : Nat} {j : Int} : kSetI (some (.lst ds)) j d l S = kStO (ixN ds.length j) ds d l S := by unfold kSetI kStO; rfl
theorem kStO_ok {l n : Nat} : kStO (some n) ds d l S = some (S.set l (.lst (ds.set n d))) := rfl
/-! values, ends -/
theorem newL_t : newL true ds S = .ok (.loc S.length) (S ++ [.lst ds]) := rfl
theorem newL_f (h : pureAll ds = true) : newL false ds S = .ok (.vl ds) S := if_pos h
theorem r_mEx {kp : Bool} : mEx kp m ρ S = exitR kp S (m ρ S) := rfl
theorem r_fnZ1 : fnZ 1 mf ds S = exitR false S (mf ds S) := rfl
theorem r_fnZ2 : fnZ 2 mf ds S = exitR true S (mf ds S) := rfl
theorem r_scp : sScp sa ρ S = scpR S (sa ρ S) := rfl
theorem r_makeN : mMakeN c ρ S = .ok (.vo c [] []) S := rfl
theorem exit_ok {kp : Bool} (h : Cld S S') : exitR kp S (.ok d S') = exK S.length S' (if kp = true then keepO S' S.length d else none) (fzD S' S.length 8 d) := if_pos h
theorem cld_app {T : Sto} : Cld S (S ++ T) := ⟨by simp, fun i hi => .inl (List.getElem?_append_left hi)⟩
theorem cld_self : Cld S S := ⟨Nat.le_refl _, fun i hi => .inl rfl⟩
theorem exit_app {kp : Bool} {T : Sto} : exitR kp S (.ok d (S ++ T)) = exK S.length (S ++ T) (if kp = true then keepO (S ++ T) S.length d else none) (fzD (S ++ T) S.length 8 d) := exit_ok cld_app
theorem exit_self {kp : Bool} : exitR kp S (.ok d S) = exK S.length S (if kp = true then keepO S S.length d else none) (fzD S S.length 8 d) := exit_ok cld_self
theorem exK_none {n : Nat} {o : Option D} : exK n S none o = exO n S o := rfl
theorem exK_some {n : Nat} {o : O} {p : Option D} : exK n S (some o) p = .ok (.loc n) (S.take n ++ [o]) := rfl
theorem exO_some {n : Nat} : exO n S (some d) = .ok d (S.take n) := rfl
theorem ite_f {α : Type} {a b : α} : (if (false = true) then a else b) = b := rfl
theorem ite_t {α : Type} {a b : α} : (if (true = true) then a else b) = a := rfl
theorem take_app {T : Sto} : (S ++ T).take S.length = S := by simp
theorem take_self : S.take S.length = S := by simp
theorem fz_pure {n k : Nat} (h : d.pureB = true) : fzD S n (k + 1) d = some d := by unfold fzD; rw [if_pos h]
theorem pure_non : D.pureB .non = true := rfl
theorem pure_bl {b : Bool} : D.pureB (.bl b) = true := rfl
theorem pure_int {i : Int} : D.pureB (.int i) = true := rfl
theorem pure_str {i : Str} : D.pureB (.str i) = true := rfl
theorem pure_vl : D.pureB (.vl ds) = true := rfl
theorem pure_cl : D.pureB (.cl ds) = true := rfl
theorem pure_vd {ks : List Key} : D.pureB (.vd ks ds) = true := rfl
theorem pure_vo {fs : List Fl} : D.pureB (.vo c fs ds) = true := rfl
theorem pure_tup : D.pureB (.tup ds) = pureAll ds := by simp only [D.pureB]
theorem pure_loc {l : Nat} : D.pureB (.loc l) = false := by simp only [D.pureB]
theorem pureAll_nil : pureAll [] = true := rfl
theorem pureAll_cons : pureAll (d :: ds) = (d.pureB && pureAll ds) := by simp only [pureAll]
def kFz (o : Option O) (S : Sto) (n k : Nat) : Option D := match o with
  | some (.lst xs) => vlO (optAll (fzD S n k) xs)
  | some (.dct false kvs) => vdO (kvs.map (·.1)) (optAll (fzD S n k) (kvs.map (·.2)))
  | some (.ins c fs) => voO c (fs.map (·.1)) (optAll (fzD S n k) (fs.map (·.2)))
  | _ => none
theorem fz_loc {n k l : Nat} (h : n ≤ l) : fzD S n (k + 1) (.loc l) = kFz S[l]? S n k := by
  unfold fzD
  rw [pure_loc, if_neg Bool.false_ne_true]
  dsimp only
  rw [if_neg (by omega)]
  unfold kFz
  rfl
theorem fz_loc0 {k : Nat} : fzD S' S.length (k + 1) (.loc S.length) = kFz S'[S.length]? S' S.length k := fz_loc (Nat.le_refl _)
theorem fz_locK {k j : Nat} : fzD S' S.length (k + 1) (.loc (S.length + j)) = kFz S'[S.length + j]? S' S.length k := fz_loc (Nat.le_add_right _ _)
theorem fz_old {n k l : Nat} (h : l < n) : fzD S n (k + 1) (.loc l) = some (.loc l) := by
  unfold fzD
  rw [pure_loc, if_neg Bool.false_ne_true]
  dsimp only
  rw [if_pos h]
theorem optAll_nil {n k : Nat} : optAll (fzD S n k) [] = some [] := rfl
theorem optAll_pure {n k : Nat} : ∀ {xs : List D}, pureAll xs = true → optAll (fzD S n (k + 1)) xs = some xs
  | [], _ => rfl
  | x :: xs, h => by
    simp only [pureAll, Bool.and_eq_true] at h
    unfold optAll
    rw [fz_pure h.1, optAll_pure h.2]
theorem kFz_lst {n k : Nat} (h : pureAll ds = true) : kFz (some (.lst ds)) S n (k + 1) = some (.vl ds) := by
  dsimp only [kFz]
  rw [optAll_pure h]
  dsimp only [vlO]
  rw [if_pos h]
theorem kFz_ins {n k : Nat} {fs : List (Fl × D)} (h : pureAll (fs.map (·.2)) = true) : kFz (some (.ins c fs)) S n (k + 1) = some (.vo c (fs.map (·.1)) (fs.map (·.2))) := by
  dsimp only [kFz]
  rw [optAll_pure h]
  dsimp only [voO]
  rw [if_pos h]
theorem kFz_dct {n k : Nat} {kvs : List (Key × D)} (h : pureAll (kvs.map (·.2)) = true) : kFz (some (.dct false kvs)) S n (k + 1) = some (.vd (kvs.map (·.1)) (kvs.map (·.2))) := by
  dsimp only [kFz]
  rw [optAll_pure h]
  dsimp only [vdO]
  rw [if_pos h]
theorem keep_lst {n l : Nat} (h : n ≤ l) (e : S[l]? = some (.lst ds)) (p : pureAll ds = true) : keepO S n (.loc l) = some (.lst ds) := by
  unfold keepO
  dsimp only
  rw [if_neg (by omega), e]
  dsimp only
  rw [if_pos p]
theorem keep_0 {T : Sto} (p : pureAll ds = true) : keepO (S ++ .lst ds :: T) S.length (.loc S.length) = some (.lst ds) := keep_lst (Nat.le_refl _) (by simp) p
theorem scp_nx (h : Cld S S') : scpR S (.nx ρ S') = scpE S' S.length (fzRho S' S.length ρ) .nx := if_pos h
theorem scp_ct (h : Cld S S') : scpR S (.ct ρ S') = scpE S' S.length (fzRho S' S.length ρ) .ct := if_pos h
theorem scp_nx_app {T : Sto} : scpR S (.nx ρ (S ++ T)) = scpE (S ++ T) S.length (fzRho (S ++ T) S.length ρ) .nx := scp_nx cld_app
theorem scp_nx_self : scpR S (.nx ρ S) = scpE S S.length (fzRho S S.length ρ) .nx := scp_nx cld_self
theorem scp_rt : scpR S (.rt d S') = .rt d S' := rfl
theorem scp_xc : scpR S (.xc e ρ S') = .xc e ρ S' := rfl
theorem scpE_some {n : Nat} {k : Rho → Sto → SR} : scpE S n (some ρ) k = k ρ (S.take n) := rfl
def kCn (o : Option (Option D)) (r : Option Rho) : Option Rho := match o, r with
  | some o, some r => some (o :: r)
  | _, _ => none
theorem kCn_ok {o : Option D} : kCn (some o) (some ρ) = some (o :: ρ) := rfl
theorem fzr_nil {n : Nat} : fzRho S n [] = some [] := rfl
theorem fzr_none {n : Nat} : fzRho S n (none :: ρ) = kCn (some none) (fzRho S n ρ) := by
  (unfold fzRho; rw [optAll]; dsimp only [fzSlot]; unfold kCn) <;> (generalize optAll (fzSlot S n) ρ = r; cases r <;> rfl)
def kSm (o : Option D) : Option (Option D) := match o with
  | some d => some (some d)
  | none => none
theorem kSm_ok : kSm (some d) = some (some d) := rfl
theorem fzr_some {n : Nat} : fzRho S n (some d :: ρ) = kCn (kSm (fzD S n 8 d)) (fzRho S n ρ) := by
  (unfold fzRho; rw [optAll]; dsimp only [fzSlot]; unfold kCn kSm) <;> (generalize optAll (fzSlot S n) ρ = r; generalize fzD S n 8 d = q; cases r <;> cases q <;> rfl)
end
end MP

set_option Elab.async false
set_option linter.all false
set_option maxRecDepth 100000
set_option maxHeartbeats 4000000
namespace MP
open PySem L2
/-! ### reckoning with the mirrors -/
theorem le_line {n : Nat} (h : n ≤ 100000) : (n ≤ sizeLine) = True := by
  rw [sizeLine_eq]
  exact eq_true (by omega)
theorem lt_line {n : Nat} (h : n ≤ 100000) : (n < sizeLine) = True := by
  rw [sizeLine_eq]
  exact eq_true (by omega)
theorem tupD_ok {ds : List D} {S : Sto} (h : ds.length ≤ 100000) : tupD ds S = .ok (.tup ds) S := by
  unfold tupD; rw [if_pos (by rw [le_line h]; trivial)]
theorem lstD_ok {tr : Bool} {ds : List D} {S : Sto} (h : ds.length ≤ 100000) : lstD tr ds S = newL tr ds S := by
  unfold lstD; rw [if_pos (by rw [le_line h]; trivial)]
theorem sub_int (i j : Int) (S : Sto) : intOp subI (.int i) (.int j) S = .ok (.int (i - j)) S := rfl
theorem add_int {tr : Bool} (i j : Int) (S : Sto) : addD tr (.int i) (.int j) S = .ok (.int (i + j)) S := rfl
theorem addI_int (i j : Int) (S : Sto) : intOp addI (.int i) (.int j) S = .ok (.int (i + j)) S := rfl
theorem mod_int {i j : Int} {S : Sto} (h : 0 < j) : intOp modI (.int i) (.int j) S = .ok (.int (i % j)) S := by
  unfold intOp modI; simp only [if_pos h]
theorem fdiv_int {i j : Int} {S : Sto} (h : 0 < j) (h2 : j.natAbs.log2 < 9000) : intOp fdivI (.int i) (.int j) S = .ok (.int (i / j)) S := by
  unfold intOp fdivI; simp only [if_pos (And.intro h h2)]
theorem mul_int' {tr : Bool} {i j : Int} {S : Sto} (h : (Builtin.Int.intBits i : Int) + (Builtin.Int.intBits j : Int) ≤ 134217728) : mulD tr (.int i) (.int j) S = .ok (.int (i * j)) S := by
  unfold mulD; simp only [if_pos h]
theorem mul_int {tr : Bool} {i j : Int} {S : Sto} {a b : Nat} (ha : i.natAbs < 2 ^ a) (hb : j.natAbs < 2 ^ b) (h : a + b ≤ 134217728) : mulD tr (.int i) (.int j) S = .ok (.int (i * j)) S := mul_int' (mulx_ok ha hb h)
theorem band_int (i j : Int) (S : Sto) : intOp andI (.int i) (.int j) S = .ok (.int (Builtin.bitAnd i j)) S := rfl
theorem bor_int (i j : Int) (S : Sto) : intOp orI (.int i) (.int j) S = .ok (.int (Builtin.bitOr i j)) S := rfl
theorem shr_int {i j : Int} {S : Sto} (h : 0 ≤ j) : intOp shrI (.int i) (.int j) S = .ok (.int (i / 2 ^ j.toNat)) S := by
  unfold intOp shrI; simp only [if_pos h]
theorem shl_int {i j : Int} {n : Nat} {S : Sto} (h0 : 0 ≤ j) (h : i.natAbs < 2 ^ n) (hn : n + j.toNat ≤ 134217728) : intOp shlI (.int i) (.int j) S = .ok (.int (i * 2 ^ j.toNat)) S := by
  have q := shl_ok h hn
  have e : ((j.toNat : Nat) : Int) = j := by omega
  rw [e] at q
  unfold intOp shlI
  simp only [if_pos (show 0 ≤ j ∧ (Builtin.Int.intBits i : Int) + j ≤ 2 ^ 27 from q)]
theorem pow_int {i j : Int} {S : Sto} (h : 0 ≤ j ∧ j ≤ 1000000 ∧ i.natAbs < 2 ^ 64) : intOp powI (.int i) (.int j) S = .ok (.int (i ^ j.toNat)) S := by
  unfold intOp powI; simp only [if_pos h]
theorem lt_int (i j : Int) (S : Sto) : cmpI ltI (.int i) (.int j) S = .ok (.bl (decide (i < j))) S := rfl
theorem le_int (i j : Int) (S : Sto) : cmpI leI (.int i) (.int j) S = .ok (.bl (decide (i ≤ j))) S := rfl
theorem gt_int (i j : Int) (S : Sto) : cmpI gtI (.int i) (.int j) S = .ok (.bl (decide (j < i))) S := rfl
theorem ge_int (i j : Int) (S : Sto) : cmpI geI (.int i) (.int j) S = .ok (.bl (decide (j ≤ i))) S := rfl
theorem eq_int (i j : Int) (S : Sto) : eqR (.int i) (.int j) S = .ok (.bl (decide (i = j))) S := rfl
theorem ne_int (i j : Int) (S : Sto) : neR (.int i) (.int j) S = .ok (.bl (!decide (i = j))) S := rfl
theorem eq_str (i j : Str) (S : Sto) : eqR (.str i) (.str j) S = .ok (.bl (decide (i = j))) S := rfl
theorem ne_str (i j : Str) (S : Sto) : neR (.str i) (.str j) S = .ok (.bl (!decide (i = j))) S := rfl
theorem is_non (d : D) (S : Sto) : isD d .non S = .ok (.bl d.isN) S := rfl
theorem isNot_non (d : D) (S : Sto) : isNotD d .non S = .ok (.bl (!d.isN)) S := rfl
theorem isN_non : D.isN .non = true := rfl
theorem isN_int (i : Int) : D.isN (.int i) = false := rfl
theorem isN_tup (xs : List D) : D.isN (.tup xs) = false := rfl
theorem isN_str (xs : Str) : D.isN (.str xs) = false := rfl
theorem isN_loc (l : Nat) : D.isN (.loc l) = false := rfl
theorem isN_bl (l : Bool) : D.isN (.bl l) = false := rfl
theorem cInt_int (i : Int) (S : Sto) : cInt [.int i] S = .ok (.int i) S := rfl
theorem cInt_bl (b : Bool) (S : Sto) : cInt [.bl b] S = .ok (.int (if b then 1 else 0)) S := rfl
theorem cAbs_int (i : Int) (S : Sto) : cAbs [.int i] S = .ok (.int (if i < 0 then -i else i)) S := rfl
theorem ty_int (i : Int) (S : Sto) : D.ty (.int i) S = some "int" := rfl
theorem ty_bl (i : Bool) (S : Sto) : D.ty (.bl i) S = some "bool" := rfl
theorem ty_str (i : Str) (S : Sto) : D.ty (.str i) S = some "str" := rfl
theorem ty_tup (i : List D) (S : Sto) : D.ty (.tup i) S = some "tuple" := rfl
theorem ty_non (S : Sto) : D.ty .non S = some "NoneType" := rfl
theorem isT_ii : isT "int" "int" = true := by decide
theorem isT_ib : isT "int" "bool" = false := by decide
theorem isT_bb : isT "bool" "bool" = true := by decide
theorem isT_bi : isT "bool" "int" = true := by decide
theorem isT_ni : isT "NoneType" "int" = false := by decide
/-- the list at l is read -/
theorem items_loc {S : Sto} {l : Nat} {xs : List D} (h : S[l]? = some (.lst xs)) : items S (.loc l) = some xs := by
  rw [r_items, h, kLst_ok]
theorem items_tup {S : Sto} {xs : List D} : items S (.tup xs) = some xs := rfl
theorem itL_ok {S : Sto} {l : Nat} {xs : List D} (h : S[l]? = some (.lst xs)) : itL (.loc l) S = some ⟨lstGet l, xs.length + 1⟩ := by
  rw [r_itLl, h, kItL_ok]
theorem lstGet_ok {S : Sto} {l : Nat} {xs : List D} (h : S[l]? = some (.lst xs)) (i : Nat) : lstGet l i S = some xs[i]? := by
  unfold lstGet; simp only [h]
theorem getI_loc {S : Sto} {l : Nat} {xs : List D} {j : Nat} {d : D} (h : S[l]? = some (.lst xs)) (hj : xs[j]? = some d) : getI (.loc l) (.int (j : Int)) S = .ok d S := by
  rw [r_getI, h, kLst_ok, ixO_ok, atI_nat hj, kLk_ok]
theorem getI_tup {S : Sto} {xs : List D} {j : Nat} {d : D} (hj : xs[j]? = some d) : getI (.tup xs) (.int (j : Int)) S = .ok d S := by
  unfold getI; simp only [atI_nat hj]
theorem lAppend_ok {S : Sto} {l : Nat} {xs : List D} {y : D} (h : S[l]? = some (.lst xs)) (hl : xs.length ≤ 100000) : lAppend (.loc l) [y] S = .ok .non (S.set l (.lst (xs ++ [y]))) := by
  unfold lAppend; simp only [h, lt_line hl, if_true]
theorem isL_ok {S : Sto} {l : Nat} {xs : List D} (h : S[l]? = some (.lst xs)) : isL (.loc l) S = true := by
  rw [r_isL, h, kIsL_ok]
/-! ### the store -/
theorem get_app {S T : Sto} {l : Nat} {o : O} (h : S[l]? = some o) : (S ++ T)[l]? = some o := by
  rw [List.getElem?_append_left (List.getElem?_eq_some_iff.mp h).1]; exact h
theorem get_last (S : Sto) (o : O) : (S ++ [o])[S.length]? = some o := by simp
theorem set_last (S : Sto) (o o' : O) : (S ++ [o]).set S.length o' = S ++ [o'] := by simp
/-! ### for -/
theorem forGo_ind {it : MIt} {t : Tg} {b : MSt} (xs : List D) (P : Nat → Rho → Sto → Prop) (Q : SR → Prop)
    (hget : ∀ i ρ S, i ≤ xs.length → P i ρ S → it.get i S = some xs[i]?)
    (hstep : ∀ i x ρ S, xs[i]? = some x → P i ρ S → ∃ ρ1, tgM t x ρ S = some ρ1 ∧ match b ρ1 S with
      | .nx ρ' S' => P (i + 1) ρ' S'
      | .ct ρ' S' => P (i + 1) ρ' S'
      | .bk ρ' S' => Q (.nx ρ' S')
      | r => Q r)
    (hend : ∀ ρ S, P xs.length ρ S → Q (.nx ρ S)) : ∀ m i ρ S, xs.length < m + i → i ≤ xs.length → P i ρ S → Q (forGo it t b m i ρ S)
  | 0, i, ρ, S, h1, h2, _ => by omega
  | m + 1, i, ρ, S, h1, h2, p => by
    unfold forGo
    rw [hget i ρ S h2 p]
    cases e : xs[i]? with
    | none =>
      have : xs.length ≤ i := List.getElem?_eq_none_iff.mp e
      have h3 : i = xs.length := by omega
      subst h3
      exact hend ρ S p
    | some x =>
      obtain ⟨ρ1, e1, hq⟩ := hstep i x ρ S e p
      have hi := (List.getElem?_eq_some_iff.mp e).1
      simp only [e1]
      cases qb : b ρ1 S with
      | nx ρ' S' => rw [qb] at hq; exact forGo_ind xs P Q hget hstep hend m (i + 1) ρ' S' (by omega) (by omega) hq
      | ct ρ' S' => rw [qb] at hq; exact forGo_ind xs P Q hget hstep hend m (i + 1) ρ' S' (by omega) (by omega) hq
      | bk ρ' S' => rw [qb] at hq; exact hq
      | rt d S' => rw [qb] at hq; exact hq
      | xc e' ρ' S' => rw [qb] at hq; exact hq
      | stuck => rw [qb] at hq; exact hq
/-- a loop that folds -/
theorem forGo_fold {α : Type} {it : MIt} {t : Tg} {b : MSt} (xs : List D) (f : α → D → α) (R : α → Rho) (T : α → Sto) (a0 : α) (hget : ∀ i a, i ≤ xs.length → it.get i (T a) = some xs[i]?)
    (hstep : ∀ a x, x ∈ xs → ∃ ρ1, tgM t x (R a) (T a) = some ρ1 ∧ b ρ1 (T a) = .nx (R (f a x)) (T (f a x))) {m : Nat} (hm : xs.length < m) : forGo it t b m 0 (R a0) (T a0) = .nx (R (xs.foldl f a0)) (T (xs.foldl f a0)) := by
  refine forGo_ind xs (fun i ρ S => ρ = R ((xs.take i).foldl f a0) ∧ S = T ((xs.take i).foldl f a0)) (fun r => r = .nx (R (xs.foldl f a0)) (T (xs.foldl f a0))) ?_ ?_ ?_ m 0 _ _ (by omega) (Nat.zero_le _) ⟨rfl, rfl⟩
  · rintro i ρ S hi ⟨rfl, rfl⟩
    exact hget i _ hi
  · rintro i x ρ S e ⟨rfl, rfl⟩
    obtain ⟨ρ1, e1, e2⟩ := hstep ((xs.take i).foldl f a0) x (List.mem_of_getElem? e)
    refine ⟨ρ1, e1, ?_⟩
    rw [e2]
    have e3 : xs.take (i + 1) = xs.take i ++ [x] := by
      rw [List.take_add_one, e]; rfl
    simp only [e3, List.foldl_append, List.foldl_cons, List.foldl_nil, and_self]
  · rintro ρ S ⟨rfl, rfl⟩
    rw [List.take_length]
/-! ### one loop, by an invariant -/
def stepQ (P : Rho → Sto → Prop) (Q : SR → Prop) : SR → Prop
  | .nx ρ S => P ρ S
  | .ct ρ S => P ρ S
  | .bk ρ S => Q (.nx ρ S)
  | r => Q r
theorem stepQ_nx {P : Rho → Sto → Prop} {Q : SR → Prop} {ρ : Rho} {S : Sto} : stepQ P Q (.nx ρ S) = P ρ S := rfl
theorem stepQ_ct {P : Rho → Sto → Prop} {Q : SR → Prop} {ρ : Rho} {S : Sto} : stepQ P Q (.ct ρ S) = P ρ S := rfl
theorem stepQ_bk {P : Rho → Sto → Prop} {Q : SR → Prop} {ρ : Rho} {S : Sto} : stepQ P Q (.bk ρ S) = Q (.nx ρ S) := rfl
theorem stepQ_rt {P : Rho → Sto → Prop} {Q : SR → Prop} {d : D} {S : Sto} : stepQ P Q (.rt d S) = Q (.rt d S) := rfl
theorem stepQ_xc {P : Rho → Sto → Prop} {Q : SR → Prop} {e : Ex} {ρ : Rho} {S : Sto} : stepQ P Q (.xc e ρ S) = Q (.xc e ρ S) := rfl
theorem forI {it : MIt} {t : Tg} {b : MSt} {m : Nat} {ρ0 : Rho} {S0 : Sto} {r : SR} (hr : forGo it t b m 0 ρ0 S0 = r) (xs : List D) (P : Nat → Rho → Sto → Prop) (Q : SR → Prop) (hm : xs.length < m) (h0 : P 0 ρ0 S0)
    (hget : ∀ i ρ S, i ≤ xs.length → P i ρ S → it.get i S = some xs[i]?)
    (hstep : ∀ i x ρ S, xs[i]? = some x → P i ρ S → ∃ ρ1, tgM t x ρ S = some ρ1 ∧ stepQ (P (i + 1)) Q (b ρ1 S))
    (hend : ∀ ρ S, P xs.length ρ S → Q (.nx ρ S)) : Q r := by
  rw [← hr]
  refine forGo_ind xs P Q hget ?_ hend m 0 ρ0 S0 (by omega) (Nat.zero_le _) h0
  intro i x ρ S e p
  obtain ⟨ρ1, e1, q⟩ := hstep i x ρ S e p
  refine ⟨ρ1, e1, ?_⟩
  cases hb : b ρ1 S <;> rw [hb] at q <;> exact q
/-- over a list that stays -/
theorem forL {l : Nat} {k : Nat} {t : Tg} {b : MSt} {m : Nat} {ρ0 : Rho} {S0 : Sto} {r : SR} (hr : forGo ⟨lstGet l, k⟩ t b m 0 ρ0 S0 = r) (xs : List D) (P : Nat → Rho → Sto → Prop) (Q : SR → Prop) (hm : xs.length < m) (h0 : P 0 ρ0 S0)
    (hget : ∀ i ρ S, P i ρ S → S[l]? = some (.lst xs))
    (hstep : ∀ i x ρ S, xs[i]? = some x → P i ρ S → ∃ ρ1, tgM t x ρ S = some ρ1 ∧ stepQ (P (i + 1)) Q (b ρ1 S))
    (hend : ∀ ρ S, P xs.length ρ S → Q (.nx ρ S)) : Q r :=
  forI hr xs P Q hm h0 (fun i ρ S _ p => by have e := hget i ρ S p; exact lstGet_ok e i) hstep hend
theorem rng_get {lo : Int} {n i : Nat} {S : Sto} : rngGet lo n i S = some ((List.range n).map fun k : Nat => D.int (lo + k))[i]? := by
  unfold rngGet
  by_cases h : i < n
  · simp [h]
  · simp [h]
/-- over a range -/
theorem forR {lo : Int} {n k : Nat} {t : Tg} {b : MSt} {m : Nat} {ρ0 : Rho} {S0 : Sto} {r : SR} (hr : forGo ⟨rngGet lo n, k⟩ t b m 0 ρ0 S0 = r) (P : Nat → Rho → Sto → Prop) (Q : SR → Prop) (hm : n < m) (h0 : P 0 ρ0 S0)
    (hstep : ∀ i ρ S, i < n → P i ρ S → ∃ ρ1, tgM t (.int (lo + i)) ρ S = some ρ1 ∧ stepQ (P (i + 1)) Q (b ρ1 S))
    (hend : ∀ ρ S, P n ρ S → Q (.nx ρ S)) : Q r := by
  have hlen : ((List.range n).map fun k : Nat => D.int (lo + k)).length = n := by simp
  refine forI hr ((List.range n).map fun k : Nat => D.int (lo + k)) P Q (by rw [hlen]; exact hm) h0 (fun i ρ S _ _ => @rng_get lo n i S) ?_ (by rw [hlen]; exact hend)
  intro i x ρ S e p
  have hi := (List.getElem?_eq_some_iff.mp e).1
  rw [hlen] at hi
  simp [hi] at e
  subst e
  exact hstep i ρ S hi p
theorem forT {xs : List D} {k : Nat} {t : Tg} {b : MSt} {m : Nat} {ρ0 : Rho} {S0 : Sto} {r : SR} (hr : forGo ⟨fixGet xs, k⟩ t b m 0 ρ0 S0 = r) (P : Nat → Rho → Sto → Prop) (Q : SR → Prop) (hm : xs.length < m) (h0 : P 0 ρ0 S0)
    (hstep : ∀ i x ρ S, xs[i]? = some x → P i ρ S → ∃ ρ1, tgM t x ρ S = some ρ1 ∧ stepQ (P (i + 1)) Q (b ρ1 S))
    (hend : ∀ ρ S, P xs.length ρ S → Q (.nx ρ S)) : Q r := forI hr xs P Q hm h0 (fun _ _ _ _ _ => rfl) hstep hend
/-! ### more steps -/
def kLen (o : Option O) (S : Sto) : Res D := match o with
  | some (.lst xs) => .ok (.int xs.length) S
  | some (.dct false kvs) => .ok (.int kvs.length) S
  | _ => .stuck
theorem r_len {l : Nat} {S : Sto} : cLen [.loc l] S = kLen S[l]? S := by
  (unfold cLen kLen; dsimp only) <;> (generalize S[l]? = o; rcases o with _ | _ | ⟨_ | _, _⟩ | _ <;> rfl)
theorem kLen_ok {ds : List D} {S : Sto} : kLen (some (.lst ds)) S = .ok (.int ds.length) S := rfl
theorem kLen_d {kvs : List (Key × D)} {S : Sto} : kLen (some (.dct false kvs)) S = .ok (.int kvs.length) S := rfl
theorem len_vl {ds : List D} {S : Sto} : cLen [.vl ds] S = .ok (.int ds.length) S := rfl
theorem len_cl {ds : List D} {S : Sto} : cLen [.cl ds] S = .ok (.int ds.length) S := rfl
theorem len_tup {ds : List D} {S : Sto} : cLen [.tup ds] S = .ok (.int ds.length) S := rfl
theorem r_sl4 {tr : Bool} {l : Nat} {lo hi : Option Int} {S : Sto} : slD' tr (.loc l) lo hi S = slO tr (kLst S[l]?) lo hi S := by rw [← r_lstO]; rfl
theorem sl_vl {tr : Bool} {ds : List D} {lo hi : Option Int} {S : Sto} : slD' tr (.vl ds) lo hi S = newL tr (cutD ds lo hi) S := rfl
theorem sl_cl {tr : Bool} {ds : List D} {lo hi : Option Int} {S : Sto} : slD' tr (.cl ds) lo hi S = newL tr (cutD ds lo hi) S := rfl
theorem slO_ok {tr : Bool} {ds : List D} {lo hi : Option Int} {S : Sto} : slO tr (some ds) lo hi S = newL tr (cutD ds lo hi) S := rfl
theorem itR1_ok {j : Int} {S : Sto} (h0 : 0 ≤ j) (h1 : j < 2 ^ 62) : itR1 [.int j] S = some ⟨rngGet 0 j.toNat, j.toNat + 1⟩ := by
  simp only [itR1]; rw [if_pos ⟨by omega, h1⟩]
theorem itR2_ok {i j : Int} {S : Sto} (h0 : 0 ≤ i ∧ i < 2 ^ 62) (h1 : 0 ≤ j ∧ j < 2 ^ 62) : itR2 [.int i, .int j] S = some ⟨rngGet i (j - i).toNat, (j - i).toNat + 1⟩ := by
  simp only [itR2]; rw [if_pos ⟨by omega, by omega, by omega, by omega⟩]
theorem cut_from {xs : List D} {a : Nat} : cutD xs (some (a : Int)) none = xs.drop a := by
  unfold cutD
  have e1 : HT.sIx xs.length 0 (some (a : Int)) = min a xs.length := HT.sIx_nat _ _ _
  have e2 : HT.sIx xs.length xs.length none = xs.length := rfl
  rw [e1, e2]
  by_cases h : a ≤ xs.length
  · rw [Nat.min_eq_left h, List.take_of_length_le]; simp
  · rw [Nat.min_eq_right (by omega), List.drop_length, List.drop_of_length_le (by omega)]; simp
theorem cut_to {xs : List D} {a : Nat} : cutD xs none (some (a : Int)) = xs.take a := by
  unfold cutD
  have e1 : HT.sIx xs.length xs.length (some (a : Int)) = min a xs.length := HT.sIx_nat _ _ _
  have e2 : HT.sIx xs.length 0 none = 0 := rfl
  rw [e1, e2]
  by_cases h : a ≤ xs.length
  · rw [Nat.min_eq_left h]; simp
  · rw [Nat.min_eq_right (by omega), List.take_of_length_le (show xs.length ≤ a by omega)]; simp
theorem cut_both {xs : List D} {a b : Nat} : cutD xs (some (a : Int)) (some (b : Int)) = (xs.drop a).take (b - a) := by
  unfold cutD
  have e1 : HT.sIx xs.length 0 (some (a : Int)) = min a xs.length := HT.sIx_nat _ _ _
  have e2 : HT.sIx xs.length xs.length (some (b : Int)) = min b xs.length := HT.sIx_nat _ _ _
  rw [e1, e2]
  by_cases h : a ≤ xs.length
  · rw [Nat.min_eq_left h]
    by_cases h2 : b ≤ xs.length
    · rw [Nat.min_eq_left h2]
    · rw [Nat.min_eq_right (show xs.length ≤ b by omega), List.take_of_length_le (by simp), List.take_of_length_le (by simp; omega)]
  · rw [Nat.min_eq_right (show xs.length ≤ a by omega), List.drop_length, List.drop_of_length_le (show xs.length ≤ a by omega)]; simp
/-! a store with a tail of known objects -/
theorem at_0 {S T : Sto} {a : O} : (S ++ a :: T)[S.length]? = some a := by simp
theorem at_1 {S T : Sto} {a b : O} : (S ++ a :: b :: T)[S.length + 1]? = some b := by
  rw [List.getElem?_append_right (by omega)]; simp
theorem at_2 {S T : Sto} {a b c : O} : (S ++ a :: b :: c :: T)[S.length + 2]? = some c := by
  rw [List.getElem?_append_right (by omega)]; simp
theorem at_3 {S T : Sto} {a b c d : O} : (S ++ a :: b :: c :: d :: T)[S.length + 3]? = some d := by
  rw [List.getElem?_append_right (by omega)]; simp
theorem set_0 {S T : Sto} {a a' : O} : (S ++ a :: T).set S.length a' = S ++ a' :: T := by simp
theorem set_1 {S T : Sto} {a b b' : O} : (S ++ a :: b :: T).set (S.length + 1) b' = S ++ a :: b' :: T := by
  simp [List.set_append]
theorem set_2 {S T : Sto} {a b c c' : O} : (S ++ a :: b :: c :: T).set (S.length + 2) c' = S ++ a :: b :: c' :: T := by
  simp [List.set_append]
theorem len_app1 {S : Sto} {a : O} : (S ++ [a]).length = S.length + 1 := by simp
theorem len_app2 {S : Sto} {a b : O} : (S ++ [a, b]).length = S.length + 2 := by simp
theorem app_app1 {S T : Sto} {a : O} : (S ++ [a]) ++ T = S ++ a :: T := by simp
/-! ### sizes of ints -/
theorem bits_lt {z : Int} {n : Nat} (h : Builtin.Int.intBits z ≤ n) : z.natAbs < 2 ^ n := by
  unfold Builtin.Int.intBits at h
  split at h
  · rename_i hz
    have : z = 0 := by simpa using hz
    subst this
    exact Nat.two_pow_pos n
  · exact Nat.lt_of_lt_of_le (Nat.lt_log2_self) (Nat.pow_le_pow_right (by decide) h)
theorem abs_lt_pow {z : Int} {n : Nat} (h0 : 0 ≤ z) (h : z < 2 ^ n) : z.natAbs < 2 ^ n := by
  have : ((z.natAbs : Nat) : Int) = z := by omega
  have h2 : ((z.natAbs : Nat) : Int) < ((2 ^ n : Nat) : Int) := by rw [this, Int.natCast_pow]; exact h
  exact Int.ofNat_lt.mp h2
theorem mul_lt_pow {i j : Int} {a b : Nat} (ha : i.natAbs < 2 ^ a) (hb : j.natAbs < 2 ^ b) : (i * j).natAbs < 2 ^ (a + b) := by
  rw [Int.natAbs_mul, Nat.pow_add]
  exact Nat.mul_lt_mul'' ha hb
theorem log2_lt {z : Int} {n : Nat} (h0 : 0 < z) (h : z.natAbs < 2 ^ n) (hn : n ≤ 9000) : z.natAbs.log2 < 9000 := by
  have : z.natAbs.log2 < n := (Nat.log2_lt (by omega)).mpr h
  omega
theorem add_lt_pow {i j : Int} {a : Nat} (ha : i.natAbs < 2 ^ a) (hb : j.natAbs < 2 ^ a) : (i + j).natAbs < 2 ^ (a + 1) := by
  rw [Nat.pow_succ]
  have := Int.natAbs_add_le i j
  omega
/-! ### numbers drawn, by their own digits or mixed -/
def mix (c : Int) : Int :=
  let o := (c + 7) * 69621 % 2147483629
  c * 1583458089 % 2147483647 + 2147483647 * (o * o * o * o * o * 982451653)
def drawNum (c : Int) (free : Bool) : Int := if free then (if c < 0 then -c else c) else mix c
def digits (n : Int) : List Int → List Int
  | [] => []
  | s :: ss => n % s :: digits (n / s) ss
theorem mix_nn (c : Int) : 0 ≤ mix c := by
  unfold mix
  have h1 : 0 ≤ (c + 7) * 69621 % 2147483629 := Int.emod_nonneg _ (by decide)
  have h2 : 0 ≤ c * 1583458089 % 2147483647 := Int.emod_nonneg _ (by decide)
  have h3 := Int.mul_nonneg (Int.mul_nonneg (Int.mul_nonneg (Int.mul_nonneg h1 h1) h1) h1) h1
  have h4 := Int.mul_nonneg h3 (show (0 : Int) ≤ 982451653 by decide)
  have h5 := Int.mul_nonneg (show (0 : Int) ≤ 2147483647 by decide) h4
  show 0 ≤ _ + _
  omega
theorem drawNum_nn (c : Int) (free : Bool) : 0 ≤ drawNum c free := by
  unfold drawNum
  cases free with
  | true => simp only [if_true]; split <;> omega
  | false => exact mix_nn c
/-! ### loops over what stays -/
def forX (t : Tg) (b : MSt) : List D → MSt
  | [] => fun ρ S => .nx ρ S
  | x :: xs => fun ρ S => match tgM t x ρ S with
    | none => .stuck
    | some ρ1 => match b ρ1 S with
      | .nx ρ' S' => forX t b xs ρ' S'
      | .ct ρ' S' => forX t b xs ρ' S'
      | .bk ρ' S' => .nx ρ' S'
      | r => r
theorem forGo_any {it : MIt} {t : Tg} {b : MSt} {xs : List D} (hg : ∀ i S, it.get i S = some xs[i]?) : ∀ (m i : Nat) (ρ : Rho) (S : Sto), i ≤ xs.length → xs.length < m + i → forGo it t b m i ρ S = forX t b (xs.drop i) ρ S
  | 0, i, ρ, S, h0, h => by omega
  | m + 1, i, ρ, S, h0, h => by
    unfold forGo
    rw [hg]
    cases e : xs[i]? with
    | none =>
      have : xs.length ≤ i := List.getElem?_eq_none_iff.mp e
      rw [List.drop_of_length_le this]
      rfl
    | some x =>
      obtain ⟨hi, e2⟩ := List.getElem?_eq_some_iff.mp e
      rw [List.drop_eq_getElem_cons hi, e2]
      unfold forX
      dsimp only
      cases tgM t x ρ S with
      | none => rfl
      | some ρ1 =>
        dsimp only
        cases b ρ1 S with
        | nx ρ' S' => exact forGo_any hg m (i + 1) ρ' S' (by omega) (by omega)
        | ct ρ' S' => exact forGo_any hg m (i + 1) ρ' S' (by omega) (by omega)
        | _ => rfl
/-- what a range tells -/
def rngL (lo : Int) (n : Nat) : List D := (List.range n).map fun k : Nat => D.int (lo + k)
theorem rngL_len {lo : Int} {n : Nat} : (rngL lo n).length = n := by simp [rngL]
def enuL (xs : List D) : List D := xs.mapIdx fun i d => D.tup [.int (i : Nat), d]
theorem for_fix {t : Tg} {b : MSt} {xs : List D} {k : Nat} {ρ : Rho} {S : Sto} (h : xs.length < k) : kFor (.ok ⟨fixGet xs, k⟩ S) t b ρ = forX t b xs ρ S := by
  rw [kFor_ok]
  exact forGo_any (fun _ _ => rfl) _ 0 ρ S (Nat.zero_le _) h
theorem for_rng {t : Tg} {b : MSt} {lo : Int} {n k : Nat} {ρ : Rho} {S : Sto} (h : n < k) : kFor (.ok ⟨rngGet lo n, k⟩ S) t b ρ = forX t b (rngL lo n) ρ S := by
  rw [kFor_ok]
  exact forGo_any (xs := rngL lo n) (fun i S => @rng_get lo n i S) _ 0 ρ S (Nat.zero_le _) (by rw [rngL_len]; exact h)
theorem for_enu {t : Tg} {b : MSt} {xs : List D} {k : Nat} {ρ : Rho} {S : Sto} (h : xs.length < k) : kFor (.ok ⟨enFix xs, k⟩ S) t b ρ = forX t b (enuL xs) ρ S := by
  rw [kFor_ok]
  exact forGo_any (xs := enuL xs) (fun i _ => by simp [enFix, enuL, List.getElem?_mapIdx]) _ 0 ρ S (Nat.zero_le _) (show (enuL xs).length < k by simpa [enuL] using h)
theorem forX_nil {t : Tg} {b : MSt} {ρ : Rho} {S : Sto} : forX t b [] ρ S = .nx ρ S := rfl
def kFY (r : SR) (t : Tg) (b : MSt) (xs : List D) : SR := match r with
  | .nx ρ S => forX t b xs ρ S
  | .ct ρ S => forX t b xs ρ S
  | .bk ρ S => .nx ρ S
  | r => r
def kFX (r : SR) (t : Tg) (b : MSt) (xs : List D) : SR := match r with
  | .nx ρ S => kFY (b ρ S) t b xs
  | _ => .stuck
theorem forX_cons {t : Tg} {b : MSt} {x : D} {xs : List D} {ρ : Rho} {S : Sto} : forX t b (x :: xs) ρ S = kFX (sTgO (tgM t x ρ S) S) t b xs := by
  unfold forX
  cases tgM t x ρ S with
  | none => rfl
  | some ρ1 =>
    rw [sTgO_some]
    (dsimp only [kFX, kFY]) <;> (cases b ρ1 S <;> rfl)
theorem kFX_nx {t : Tg} {b : MSt} {xs : List D} {ρ : Rho} {S : Sto} : kFX (.nx ρ S) t b xs = kFY (b ρ S) t b xs := rfl
theorem kFY_nx {t : Tg} {b : MSt} {xs : List D} {ρ : Rho} {S : Sto} : kFY (.nx ρ S) t b xs = forX t b xs ρ S := rfl
theorem kFY_ct {t : Tg} {b : MSt} {xs : List D} {ρ : Rho} {S : Sto} : kFY (.ct ρ S) t b xs = forX t b xs ρ S := rfl
theorem kFY_bk {t : Tg} {b : MSt} {xs : List D} {ρ : Rho} {S : Sto} : kFY (.bk ρ S) t b xs = .nx ρ S := rfl
theorem kFY_rt {t : Tg} {b : MSt} {xs : List D} {d : D} {S : Sto} : kFY (.rt d S) t b xs = .rt d S := rfl
theorem kFY_xc {t : Tg} {b : MSt} {xs : List D} {e : Ex} {ρ : Rho} {S : Sto} : kFY (.xc e ρ S) t b xs = .xc e ρ S := rfl
theorem forX_app {t : Tg} {b : MSt} : ∀ {xs ys : List D} {ρ : Rho} {S : Sto}, forX t b (xs ++ ys) ρ S = (match forX t b xs ρ S with
    | .nx ρ' S' => forX t b ys ρ' S'
    | r => r) ∨ ∃ ρ' S', forX t b (xs ++ ys) ρ S = .nx ρ' S'
  | [], ys, ρ, S => .inl rfl
  | x :: xs, ys, ρ, S => by
    rw [List.cons_append, forX_cons, forX_cons]
    cases sTgO (tgM t x ρ S) S with
    | nx ρ1 S1 =>
      rw [kFX_nx, kFX_nx]
      cases b ρ1 S1 with
      | nx ρ2 S2 => exact forX_app
      | ct ρ2 S2 => exact forX_app
      | bk ρ2 S2 => exact .inr ⟨ρ2, S2, rfl⟩
      | _ => exact .inl rfl
    | _ => exact .inl rfl
/-- by an invariant over what is left -/
theorem forXI {t : Tg} {b : MSt} {ρ0 : Rho} {S0 : Sto} {r : SR} {xs : List D} (hr : forX t b xs ρ0 S0 = r) (P : Nat → Rho → Sto → Prop) (Q : SR → Prop) (h0 : P 0 ρ0 S0)
    (hstep : ∀ i x ρ S, xs[i]? = some x → P i ρ S → ∃ ρ1, tgM t x ρ S = some ρ1 ∧ stepQ (P (i + 1)) Q (b ρ1 S))
    (hend : ∀ ρ S, P xs.length ρ S → Q (.nx ρ S)) : Q r := by
  have e : forGo ⟨fixGet xs, xs.length + 1⟩ t b (xs.length + 1) 0 ρ0 S0 = r := by
    rw [forGo_any (xs := xs) (fun _ _ => rfl) _ 0 ρ0 S0 (Nat.zero_le _) (by omega)]
    exact hr
  exact forI e xs P Q (by omega) h0 (fun _ _ _ _ _ => rfl) hstep hend
end MP

set_option Elab.async false
set_option linter.all false
set_option maxRecDepth 100000
set_option maxHeartbeats 4000000
namespace MP
open PySem L2
/-! ### equality of data -/
theorem optAll_map {α β : Type} {γ : Type} {f : α → Option β} {h : γ → α} {g : γ → β} : ∀ {xs : List γ}, (∀ x ∈ xs, f (h x) = some (g x)) → optAll f (xs.map h) = some (xs.map g)
  | [], _ => rfl
  | x :: xs, q => by
    have e1 := q x (List.mem_cons_self)
    have e2 := optAll_map (f := f) (h := h) (g := g) (xs := xs) fun y hy => q y (List.mem_cons_of_mem _ hy)
    simp only [List.map_cons, optAll, e1, e2]
theorem optAll_cons {α β : Type} {f : α → Option β} {x : α} {xs : List α} {y : β} {ys : List β} (h : f x = some y) (h2 : optAll f xs = some ys) : optAll f (x :: xs) = some (y :: ys) := by
  simp only [optAll, h, h2]
theorem optAll_mem {α β : Type} {f : α → Option β} : ∀ {xs : List α} {ys : List β}, optAll f xs = some ys → ∀ y ∈ ys, ∃ x ∈ xs, f x = some y
  | [], _, h, y, hy => by cases h; cases hy
  | x :: xs, ys, h, y, hy => by
    unfold optAll at h
    split at h
    · rename_i z zs e1 e2
      cases h
      rcases List.mem_cons.mp hy with rfl | hy
      · exact ⟨x, List.mem_cons_self, e1⟩
      · obtain ⟨w, hw, e⟩ := optAll_mem e2 y hy
        exact ⟨w, List.mem_cons_of_mem _ hw, e⟩
    · cases h
theorem depthAll_le {n : Nat} : ∀ {ps : List PyData}, (∀ p ∈ ps, p.depth ≤ n) → PyData.depthAll ps ≤ n
  | [], _ => by simp [PyData.depthAll]
  | p :: ps, h => by
    have h1 := h p List.mem_cons_self
    have h2 := depthAll_le (n := n) (ps := ps) fun q hq => h q (List.mem_cons_of_mem _ hq)
    simp only [PyData.depthAll]
    omega
theorem pd_depth {S : Sto} : ∀ {n : Nat} {d : D} {p : PyData}, pd S n d = some p → p.depth ≤ n := by
  intro n
  induction n with
  | zero => intro d p h; cases d <;> simp [pd] at h <;> subst h <;> simp [PyData.depth]
  | succ n ih =>
    intro d p h
    cases d with
    | tup xs =>
      simp only [pd] at h
      obtain ⟨ps, e, rfl⟩ := Option.map_eq_some_iff.mp h
      simp only [PyData.depth]
      have := depthAll_le (n := n) (ps := ps) fun q hq => by
        obtain ⟨x, _, ex⟩ := optAll_mem e q hq
        exact ih ex
      omega
    | loc l =>
      simp only [pd] at h
      split at h
      · obtain ⟨ps, e, rfl⟩ := Option.map_eq_some_iff.mp h
        simp only [PyData.depth]
        have := depthAll_le (n := n) (ps := ps) fun q hq => by
          obtain ⟨x, _, ex⟩ := optAll_mem e q hq
          exact ih ex
        omega
      · cases h
    | vl xs =>
      simp only [pd] at h
      obtain ⟨ps, e, rfl⟩ := Option.map_eq_some_iff.mp h
      simp only [PyData.depth]
      have := depthAll_le (n := n) (ps := ps) fun q hq => by
        obtain ⟨x, _, ex⟩ := optAll_mem e q hq
        exact ih ex
      omega
    | cl xs =>
      simp only [pd] at h
      obtain ⟨ps, e, rfl⟩ := Option.map_eq_some_iff.mp h
      simp only [PyData.depth]
      have := depthAll_le (n := n) (ps := ps) fun q hq => by
        obtain ⟨x, _, ex⟩ := optAll_mem e q hq
        exact ih ex
      omega
    | vd ks xs => simp [pd] at h
    | vo c fs xs => simp [pd] at h
    | xv c xs => simp [pd] at h
    | _ => simp [pd] at h; subst h; simp [PyData.depth]
theorem shaped_pd {S : Sto} {d : D} {p : PyData} (h : pd S 8 d = some p) (hc : p.canLay0 = true) : SeqAt.shaped p = true := by
  unfold SeqAt.shaped
  rw [hc, Bool.true_and]
  exact decide_eq_true (Nat.le_trans (pd_depth h) (by decide))
mutual
theorem eqv_refl : ∀ {p : PyData}, p.canLay0 = true → PyData.eqv p p = true
  | .none, _ => rfl
  | .bool b, _ => by simp [PyData.eqv]
  | .int i, _ => by simp [PyData.eqv]
  | .str x, _ => by simp [PyData.eqv]
  | .list xs, h => by simp only [PyData.eqv]; exact eqvAll_refl (by simpa [PyData.canLay0] using h)
  | .tuple xs, h => by simp only [PyData.eqv]; exact eqvAll_refl (by simpa [PyData.canLay0] using h)
  | .dict _, h => by simp [PyData.canLay0] at h
theorem eqvAll_refl : ∀ {ps : List PyData}, PyData.canLayAll0 ps = true → PyData.eqvAll ps ps = true
  | [], _ => rfl
  | p :: ps, h => by
    simp only [PyData.canLayAll0, Bool.and_eq_true] at h
    simp only [PyData.eqvAll, eqv_refl h.1, eqvAll_refl h.2, Bool.and_self]
end
mutual
/-- no truths inside: then == is being the same -/
def nb : PyData → Bool
  | .bool _ => false
  | .list xs => nbAll xs
  | .tuple xs => nbAll xs
  | _ => true
def nbAll : List PyData → Bool
  | [] => true
  | x :: xs => nb x && nbAll xs
end
mutual
theorem eqv_eq : ∀ {p q : PyData}, nb p = true → nb q = true → PyData.eqv p q = true → p = q := by
  intro p q h1 h2 h
  cases p <;> cases q <;> first
    | rfl
    | (exfalso; simp [nb] at h1; done)
    | (exfalso; simp [nb] at h2; done)
    | (exfalso; simp [PyData.eqv] at h; done)
    | (simp [PyData.eqv] at h; rw [h]; done)
    | (simp only [nb] at h1 h2; simp only [PyData.eqv] at h; rw [eqvAll_eq h1 h2 h])
theorem eqvAll_eq : ∀ {ps qs : List PyData}, nbAll ps = true → nbAll qs = true → PyData.eqvAll ps qs = true → ps = qs
  | [], [], _, _, _ => rfl
  | [], _ :: _, _, _, h => by simp [PyData.eqvAll] at h
  | _ :: _, [], _, _, h => by simp [PyData.eqvAll] at h
  | p :: ps, q :: qs, h1, h2, h => by
    simp only [nbAll, Bool.and_eq_true] at h1 h2
    simp only [PyData.eqvAll, Bool.and_eq_true] at h
    rw [eqv_eq h1.1 h2.1 h.1, eqvAll_eq h1.2 h2.2 h.2]
end
theorem eqD_pd {S : Sto} {x y : D} {p q : PyData} (hx : pd S 8 x = some p) (hy : pd S 8 y = some q) (h1 : p.canLay0 = true) (h2 : q.canLay0 = true) (b : Bool) (hb : PyData.eqv p q = b) (hs : x.scalar = false ∨ y.scalar = false) : eqD S x y = some b := by
  have deep : deepEq S x y = some b := by
    unfold deepEq
    rw [hx, hy]
    dsimp only
    rw [if_pos ⟨shaped_pd hx h1, shaped_pd hy h2⟩, hb]
  cases x <;> cases y <;> first | exact deep | (exfalso; simp [D.scalar] at hs; done)
theorem eqD_same {S : Sto} {x y : D} {p : PyData} (hx : pd S 8 x = some p) (hy : pd S 8 y = some p) (h1 : p.canLay0 = true) : eqD S x y = some true := by
  have deep : x.scalar = false ∨ y.scalar = false → eqD S x y = some true := eqD_pd hx hy h1 h1 true (eqv_refl h1)
  cases x <;> cases y <;> first
    | exact deep (.inl rfl)
    | exact deep (.inr rfl)
    | rfl
    | (simp [pd] at hx hy; subst hx; first | (cases hy; simp [eqD]; done) | (exfalso; cases hy; done) | (simp at hy; done) | (simp [eqD, hy]; done))
theorem eqR_same {S : Sto} {x y : D} {p : PyData} (hx : pd S 8 x = some p) (hy : pd S 8 y = some p) (h1 : p.canLay0 = true) : eqR x y S = .ok (.bl true) S := by
  unfold eqR; rw [eqD_same hx hy h1]
theorem neR_same {S : Sto} {x y : D} {p : PyData} (hx : pd S 8 x = some p) (hy : pd S 8 y = some p) (h1 : p.canLay0 = true) : neR x y S = .ok (.bl false) S := by
  unfold neR; rw [eqD_same hx hy h1]; rfl
theorem pd_loc {S : Sto} {n l : Nat} {xs : List D} {ps : List PyData} (h : S[l]? = some (.lst xs)) (hx : optAll (pd S n) xs = some ps) : pd S (n + 1) (.loc l) = some (.list ps) := by
  simp only [pd, h, hx]; rfl
theorem pd_tup {S : Sto} {n : Nat} {xs : List D} {ps : List PyData} (hx : optAll (pd S n) xs = some ps) : pd S (n + 1) (.tup xs) = some (.tuple ps) := by
  simp only [pd, hx]; rfl
theorem pd_int {S : Sto} {n : Nat} {i : Int} : pd S n (.int i) = some (.int i) := by cases n <;> rfl
theorem pd_str {S : Sto} {n : Nat} {i : Str} : pd S n (.str i) = some (.str i) := by cases n <;> rfl
theorem pd_bl {S : Sto} {n : Nat} {i : Bool} : pd S n (.bl i) = some (.bool i) := by cases n <;> rfl
theorem pd_non {S : Sto} {n : Nat} : pd S n .non = some .none := by cases n <;> rfl
theorem pd_ints {S : Sto} {n : Nat} {xs : List Int} : optAll (pd S n) (xs.map .int) = some (xs.map PyData.int) := optAll_map fun _ _ => pd_int
theorem lay_ints : ∀ {xs : List Int}, PyData.canLayAll0 (xs.map PyData.int) = true
  | [] => rfl
  | x :: xs => by simp only [List.map_cons, PyData.canLayAll0, PyData.canLay0, lay_ints, Bool.and_self]
theorem nb_ints : ∀ {xs : List Int}, nbAll (xs.map PyData.int) = true
  | [] => rfl
  | x :: xs => by simp only [List.map_cons, nbAll, nb, nb_ints, Bool.and_self]
theorem eqv_ints {xs ys : List Int} : PyData.eqv (.list (xs.map PyData.int)) (.list (ys.map PyData.int)) = decide (xs = ys) := by
  by_cases h : xs = ys
  · subst h
    rw [decide_eq_true rfl]
    exact eqv_refl (by simp only [PyData.canLay0]; exact lay_ints)
  · rw [decide_eq_false h]
    cases e : PyData.eqv (.list (xs.map PyData.int)) (.list (ys.map PyData.int)) with
    | false => rfl
    | true =>
      have q := eqv_eq (by simp only [nb]; exact nb_ints) (by simp only [nb]; exact nb_ints) e
      refine absurd ?_ h
      injection q with q
      exact List.map_inj_right (fun a b z => PyData.int.inj z) |>.mp q
theorem eqD_ints {S : Sto} {a b : Nat} {xs ys : List Int} (h1 : S[a]? = some (.lst (xs.map .int))) (h2 : S[b]? = some (.lst (ys.map .int))) : eqD S (.loc a) (.loc b) = some (decide (xs = ys)) :=
  eqD_pd (pd_loc h1 pd_ints) (pd_loc h2 pd_ints) (by simp only [PyData.canLay0]; exact lay_ints) (by simp only [PyData.canLay0]; exact lay_ints) _ eqv_ints (.inl rfl)
theorem eqR_ints {S : Sto} {a b : Nat} {xs ys : List Int} (h1 : S[a]? = some (.lst (xs.map .int))) (h2 : S[b]? = some (.lst (ys.map .int))) : eqR (.loc a) (.loc b) S = .ok (.bl (decide (xs = ys))) S := by
  unfold eqR; rw [eqD_ints h1 h2]
theorem neR_ints {S : Sto} {a b : Nat} {xs ys : List Int} (h1 : S[a]? = some (.lst (xs.map .int))) (h2 : S[b]? = some (.lst (ys.map .int))) : neR (.loc a) (.loc b) S = .ok (.bl (!decide (xs = ys))) S := by
  unfold neR; rw [eqD_ints h1 h2]
theorem eq_bl (a b : Bool) (S : Sto) : eqR (.bl a) (.bl b) S = .ok (.bl (decide (a = b))) S := rfl
theorem ne_bl (a b : Bool) (S : Sto) : neR (.bl a) (.bl b) S = .ok (.bl (!decide (a = b))) S := rfl
/-! ### index -1 and the like -/
theorem atI_pred {xs : List D} {k : Nat} (hk : k < xs.length) : ∃ x ∈ xs, atI xs ((k : Int) - 1) = some x := by
  cases k with
  | zero =>
    refine ⟨xs[xs.length - 1]'(by omega), List.getElem_mem _, ?_⟩
    unfold atI ixN
    rw [if_neg (by omega), if_pos (by omega)]
    simp only [Option.bind_some]
    rw [show (((0 : Nat) : Int) - 1 + (xs.length : Int)).toNat = xs.length - 1 by omega]
    exact List.getElem?_eq_getElem (by omega)
  | succ k =>
    refine ⟨xs[k]'(by omega), List.getElem_mem _, ?_⟩
    rw [show (((k + 1 : Nat) : Int) - 1) = (k : Int) by omega]
    exact atI_nat (List.getElem?_eq_getElem (by omega))
/-! ### bits of quotients -/
theorem div_lt_pow {c d : Int} {n : Nat} (hd : 0 < d) (hc : c.natAbs < 2 ^ n) : (c / d).natAbs < 2 ^ n := by
  have h1 : (c / d).natAbs ≤ c.natAbs := by
    by_cases h : 0 ≤ c
    · have h2 : c / d ≤ c := Int.ediv_le_self _ h
      have h3 : 0 ≤ c / d := Int.ediv_nonneg h (by omega)
      omega
    · have h2 : c ≤ c / d := by
        rw [Int.le_ediv_iff_mul_le hd]
        have := Int.mul_le_mul_of_nonpos_left (show c ≤ 0 by omega) (show (1 : Int) ≤ d by omega)
        omega
      have h3 : c / d < 0 := Int.ediv_neg_of_neg_of_pos (by omega) hd
      omega
  omega
theorem mod_lt_pow {c d : Int} {n : Nat} (hd : 0 < d) (hn : d.natAbs ≤ 2 ^ n) : (c % d).natAbs < 2 ^ n := by
  have h1 := Int.emod_nonneg c (show d ≠ 0 by omega)
  have h2 := Int.emod_lt_of_pos c hd
  omega
/-! ### stores with a known tail -/
theorem at_z {S T : Sto} : (S ++ T)[S.length]? = T[0]? := by
  rw [List.getElem?_append_right (Nat.le_refl _), Nat.sub_self]
theorem at_k {S T : Sto} {k : Nat} : (S ++ T)[S.length + k]? = T[k]? := by
  rw [List.getElem?_append_right (by omega), Nat.add_sub_cancel_left]
theorem set_z {S T : Sto} {o : O} : (S ++ T).set S.length o = S ++ T.set 0 o := by
  simp [List.set_append]
theorem set_k {S T : Sto} {k : Nat} {o : O} : (S ++ T).set (S.length + k) o = S ++ T.set k o := by
  simp [List.set_append]
theorem add_vv {tr : Bool} {xs ys : List D} {S : Sto} : addD tr (.vl xs) (.vl ys) S = catL tr (some xs) (some ys) S := rfl
theorem add_vl {tr : Bool} {xs : List D} {l : Nat} {S : Sto} : addD tr (.vl xs) (.loc l) S = catL tr (some xs) (kLst S[l]?) S := by rw [← r_lstO]; rfl
theorem add_lv {tr : Bool} {ys : List D} {l : Nat} {S : Sto} : addD tr (.loc l) (.vl ys) S = catL tr (kLst S[l]?) (some ys) S := by rw [← r_lstO]; rfl
theorem add_ll {tr : Bool} {l m : Nat} {S : Sto} : addD tr (.loc l) (.loc m) S = catL tr (kLst S[l]?) (kLst S[m]?) S := by rw [← r_lstO, ← r_lstO]; rfl
theorem add_vc {tr : Bool} {xs ys : List D} {S : Sto} : addD tr (.vl xs) (.cl ys) S = catL tr (some xs) (some ys) S := rfl
theorem add_cv {tr : Bool} {xs ys : List D} {S : Sto} : addD tr (.cl xs) (.vl ys) S = catL tr (some xs) (some ys) S := rfl
theorem add_cl {tr : Bool} {xs : List D} {l : Nat} {S : Sto} : addD tr (.cl xs) (.loc l) S = catL tr (some xs) (kLst S[l]?) S := by rw [← r_lstO]; rfl
theorem add_lc {tr : Bool} {ys : List D} {l : Nat} {S : Sto} : addD tr (.loc l) (.cl ys) S = catL tr (kLst S[l]?) (some ys) S := by rw [← r_lstO]; rfl
theorem catL_ok {tr : Bool} {xs ys : List D} {S : Sto} (h : xs.length + ys.length ≤ sizeLine) : catL tr (some xs) (some ys) S = newL tr (xs ++ ys) S := if_pos h
/-! ### stores that only grow ahead of a place -/
theorem pfx_get {S S' : Sto} {i : Nat} {o : O} (h : S <+: S') (e : S[i]? = some o) : S'[i]? = some o := by
  obtain ⟨T, rfl⟩ := h
  exact get_app e
theorem pfx_app {S S' T : Sto} (h : S <+: S') : S <+: S' ++ T := by
  obtain ⟨U, rfl⟩ := h
  exact ⟨U ++ T, by rw [List.append_assoc]⟩
theorem pfx_set {S S' : Sto} {l : Nat} {o : O} (h : S <+: S') (hl : S.length ≤ l) : S <+: S'.set l o := by
  obtain ⟨U, rfl⟩ := h
  obtain ⟨k, rfl⟩ := Nat.exists_eq_add_of_le hl
  rw [set_k]
  exact ⟨_, rfl⟩
theorem pfx_len {S S' : Sto} (h : S <+: S') : S.length ≤ S'.length := h.length_le
theorem get_lt {S : Sto} {i : Nat} {o : O} (h : S[i]? = some o) : i < S.length := (List.getElem?_eq_some_iff.mp h).1
theorem set_get_self {S : Sto} {i : Nat} {o o' : O} (h : S[i]? = some o) : (S.set i o')[i]? = some o' := by
  rw [List.getElem?_set_self (get_lt h)]
theorem set_get_ne {S : Sto} {i j : Nat} {o o' : O} (h : S[j]? = some o) (hn : i ≠ j) : (S.set i o')[j]? = some o := by
  rw [List.getElem?_set_ne hn]; exact h
/-! ### n times a list -/
def kRD (tr : Bool) (r : Res (List D)) (mb : MEx) (ρ : Rho) : Res D := r.bind fun ds S1 => if ds.length ≤ sizeLine then (mb ρ S1).bind fun y S2 => repL tr ds y S2 else .stuck
def kRD2 (tr : Bool) (ds : List D) (r : Res D) : Res D := r.bind fun y S2 => repL tr ds y S2
theorem r_repD {tr : Bool} {ms : MAr} {mb : MEx} {ρ : Rho} {S : Sto} : mRepD tr ms mb ρ S = kRD tr (ms ρ S) mb ρ := rfl
theorem kRD_ok {tr : Bool} {ds : List D} {mb : MEx} {ρ : Rho} {S : Sto} (h : ds.length ≤ 100000) : kRD tr (.ok ds S) mb ρ = kRD2 tr ds (mb ρ S) := by
  unfold kRD kRD2
  rw [Res.bind_ok, if_pos (by rw [le_line h]; trivial)]
theorem kRD2_ok {tr : Bool} {ds : List D} {d : D} {S : Sto} : kRD2 tr ds (.ok d S) = repL tr ds d S := rfl
def reps (n : Nat) (x : D) : List D := List.replicate n x
theorem reps_len {n : Nat} {x : D} : (reps n x).length = n := List.length_replicate
theorem rep_flat {n : Nat} {x : D} : (List.replicate n [x]).flatten = reps n x := by
  unfold reps
  induction n with
  | zero => rfl
  | succ n ih => rw [List.replicate_succ, List.flatten_cons, ih, List.replicate_succ]; rfl
theorem pure_reps {n : Nat} {x : D} (h : x.pureB = true) : pureAll (reps n x) = true := pureAll_mem.mpr fun y hy => by rw [List.eq_of_mem_replicate hy]; exact h
theorem repL_nat {tr : Bool} {x : D} {n : Nat} {S : Sto} (h : n ≤ 100000) : repL tr [x] (.int (n : Int)) S = newL tr (reps n x) S := by
  unfold repL
  dsimp only
  rw [if_pos ⟨by omega, by omega, by rw [Int.toNat_natCast, List.length_singleton, Nat.one_mul, le_line h]; trivial⟩, Int.toNat_natCast, rep_flat]
/-! ### enumerate -/
def kEn (a : Option O) (l : Nat) : Option MIt := match a with
  | some (.lst xs) => some ⟨enGet l, xs.length + 1⟩
  | _ => none
theorem r_en {l : Nat} {S : Sto} : itEn [.loc l] S = kEn S[l]? l := by
  simp only [itEn, kEn] <;> (generalize S[l]? = o; rcases o with _ | _ | _ | _ <;> rfl)
theorem kEn_ok {xs : List D} {l : Nat} : kEn (some (.lst xs)) l = some ⟨enGet l, xs.length + 1⟩ := rfl
theorem enGet_ok {S : Sto} {l : Nat} {xs : List D} (h : S[l]? = some (.lst xs)) (i : Nat) : enGet l i S = some (xs[i]?.map fun d => .tup [.int (i : Nat), d]) := by
  simp only [enGet, h]
theorem forE {l : Nat} {k : Nat} {t : Tg} {b : MSt} {m : Nat} {ρ0 : Rho} {S0 : Sto} {r : SR} (hr : forGo ⟨enGet l, k⟩ t b m 0 ρ0 S0 = r) (xs : List D) (P : Nat → Rho → Sto → Prop) (Q : SR → Prop) (hm : xs.length < m) (h0 : P 0 ρ0 S0)
    (hget : ∀ i ρ S, P i ρ S → S[l]? = some (.lst xs))
    (hstep : ∀ i x ρ S, xs[i]? = some x → P i ρ S → ∃ ρ1, tgM t (.tup [.int (i : Nat), x]) ρ S = some ρ1 ∧ stepQ (P (i + 1)) Q (b ρ1 S))
    (hend : ∀ ρ S, P xs.length ρ S → Q (.nx ρ S)) : Q r := by
  have hlen : (xs.mapIdx fun i d => D.tup [.int (i : Nat), d]).length = xs.length := List.length_mapIdx
  refine forI hr (xs.mapIdx fun i d => D.tup [.int (i : Nat), d]) P Q (by rw [hlen]; exact hm) h0 ?_ ?_ (by rw [hlen]; exact hend)
  · intro i ρ S _ p
    have e := hget i ρ S p
    show enGet l i S = _
    rw [enGet_ok e, List.getElem?_mapIdx]
  · intro i x ρ S e p
    rw [List.getElem?_mapIdx] at e
    obtain ⟨y, ey, rfl⟩ := Option.map_eq_some_iff.mp e
    exact hstep i y ρ S ey p
/-! ### what a call leaves as it was -/
def Fr (W : List Nat) (S S' : Sto) : Prop := S.length ≤ S'.length ∧ ∀ i o, i ∉ W → S[i]? = some o → S'[i]? = some o
theorem Fr.refl {W : List Nat} {S : Sto} : Fr W S S := ⟨Nat.le_refl _, fun _ _ _ h => h⟩
theorem Fr.trans {W : List Nat} {S S' S'' : Sto} (a : Fr W S S') (b : Fr W S' S'') : Fr W S S'' := ⟨Nat.le_trans a.1 b.1, fun i o hi h => b.2 i o hi (a.2 i o hi h)⟩
theorem Fr.mono {W W' : List Nat} {S S' : Sto} (a : Fr W S S') (h : ∀ i, i ∈ W → i ∈ W') : Fr W' S S' := ⟨a.1, fun i o hi e => a.2 i o (fun z => hi (h i z)) e⟩
theorem Fr.pfx {W : List Nat} {S S' : Sto} (h : S <+: S') : Fr W S S' := ⟨pfx_len h, fun i o _ e => pfx_get h e⟩
theorem Fr.app {W : List Nat} {S T : Sto} : Fr W S (S ++ T) := .pfx ⟨_, rfl⟩
theorem Fr.set {W : List Nat} {S : Sto} {l : Nat} {o : O} (hl : l ∈ W) : Fr W S (S.set l o) :=
  ⟨by rw [List.length_set]; exact Nat.le_refl _, fun i o hi e => set_get_ne e (fun z => hi (z ▸ hl))⟩
/-! ### a comprehension by an invariant -/
def lcQ (P : Sto → Prop) (L : Nat) (tt : MTs) (me : MEx) (ρ1 : Rho) (S : Sto) : Prop :=
  ∃ b S2, tt ρ1 S = .ok b S2 ∧ (b = false → P S2) ∧ (b = true → ∃ y S3 acc, me ρ1 S2 = .ok y S3 ∧ S3[L]? = some (.lst acc) ∧ acc.length < sizeLine ∧ P (S3.set L (.lst (acc ++ [y]))))
theorem lcGo_ind {it : MIt} {t : Tg} {tt : MTs} {me : MEx} {ρ : Rho} {L : Nat} (xs : List D) (P : Nat → Sto → Prop) (Q : Res D → Prop)
    (hget : ∀ i S, i ≤ xs.length → P i S → it.get i S = some xs[i]?)
    (hstep : ∀ i x S, xs[i]? = some x → P i S → ∃ ρ1, tgM t x ρ S = some ρ1 ∧ lcQ (P (i + 1)) L tt me ρ1 S)
    (hend : ∀ S, P xs.length S → Q (.ok (.loc L) S)) : ∀ m i S, xs.length < m + i → i ≤ xs.length → P i S → Q (lcGo it t tt me ρ L m i S)
  | 0, i, S, h1, h2, _ => by omega
  | m + 1, i, S, h1, h2, p => by
    unfold lcGo
    rw [hget i S h2 p]
    cases e : xs[i]? with
    | none =>
      have : xs.length ≤ i := List.getElem?_eq_none_iff.mp e
      have h3 : i = xs.length := by omega
      subst h3
      exact hend S p
    | some x =>
      obtain ⟨ρ1, e1, b, S2, e2, hf, ht⟩ := hstep i x S e p
      have hi := (List.getElem?_eq_some_iff.mp e).1
      simp only [e1, e2, noX_ok, Res.bind_ok]
      cases b with
      | false => exact lcGo_ind xs P Q hget hstep hend m (i + 1) S2 (by omega) (by omega) (hf rfl)
      | true =>
        obtain ⟨y, S3, acc, e3, e4, e5, p'⟩ := ht rfl
        simp only [e3, noX_ok, Res.bind_ok, if_true, e4, e5]
        exact lcGo_ind xs P Q hget hstep hend m (i + 1) _ (by omega) (by omega) p'
theorem lcI {it : MIt} {t : Tg} {tt : MTs} {me : MEx} {ρ : Rho} {L m : Nat} {S0 : Sto} {r : Res D} (hr : lcGo it t tt me ρ L m 0 S0 = r) (xs : List D) (P : Nat → Sto → Prop) (Q : Res D → Prop) (hm : xs.length < m) (h0 : P 0 S0)
    (hget : ∀ i S, i ≤ xs.length → P i S → it.get i S = some xs[i]?)
    (hstep : ∀ i x S, xs[i]? = some x → P i S → ∃ ρ1, tgM t x ρ S = some ρ1 ∧ lcQ (P (i + 1)) L tt me ρ1 S)
    (hend : ∀ S, P xs.length S → Q (.ok (.loc L) S)) : Q r := by
  rw [← hr]
  exact lcGo_ind xs P Q hget hstep hend m 0 S0 (by omega) (Nat.zero_le _) h0
/-- a comprehension that only reckons -/
theorem lc_pure {it : MIt} {t : Tg} {tt : MTs} {me : MEx} {ρ : Rho} {m : Nat} {S0 : Sto} (xs : List D) (b : D → Bool) (f : D → D)
    (hget : ∀ i acc, it.get i (S0 ++ [.lst acc]) = some xs[i]?)
    (hstep : ∀ x, x ∈ xs → ∀ acc, ∃ ρ1, tgM t x ρ (S0 ++ [.lst acc]) = some ρ1 ∧ tt ρ1 (S0 ++ [.lst acc]) = .ok (b x) (S0 ++ [.lst acc]) ∧ (b x = true → me ρ1 (S0 ++ [.lst acc]) = .ok (f x) (S0 ++ [.lst acc])))
    (hl : xs.length ≤ 100000) (hm : xs.length < m) : lcGo it t tt me ρ S0.length m 0 (S0 ++ [.lst []]) = .ok (.loc S0.length) (S0 ++ [.lst ((xs.filter b).map f)]) := by
  refine lcI rfl xs (fun i S => S = S0 ++ [.lst (((xs.take i).filter b).map f)]) (fun r => r = .ok (.loc S0.length) (S0 ++ [.lst ((xs.filter b).map f)])) hm rfl ?_ ?_ ?_
  · rintro i S _ rfl
    exact hget i _
  · rintro i x S e rfl
    obtain ⟨ρ1, e1, e2, e3⟩ := hstep x (List.mem_of_getElem? e) (((xs.take i).filter b).map f)
    have e4 : xs.take (i + 1) = xs.take i ++ [x] := by rw [List.take_add_one, e]; rfl
    refine ⟨ρ1, e1, b x, _, e2, ?_, ?_⟩
    · intro hb
      rw [e4, List.filter_append, List.filter_cons_of_neg (by rw [hb]; exact Bool.false_ne_true), List.filter_nil, List.append_nil]
    · intro hb
      refine ⟨f x, _, ((xs.take i).filter b).map f, e3 hb, get_last _ _, ?_, ?_⟩
      · rw [lt_line]
        · trivial
        · rw [List.length_map]
          exact Nat.le_trans (List.length_filter_le _ _) (Nat.le_trans (by rw [List.length_take]; exact Nat.min_le_right _ _) hl)
      · rw [set_last, e4, List.filter_append, List.filter_cons_of_pos hb, List.filter_nil, List.map_append]
        rfl
  · rintro S rfl
    rw [List.take_length]
/-! ### while, by a measure -/
theorem whileI {c : MTs} {b : MSt} (P : Nat → Rho → Sto → Prop) (Q : SR → Prop) (hstep : ∀ n ρ S, P n ρ S → ∃ t S1, c ρ S = .ok t S1 ∧ (t = false → Q (.nx ρ S1)) ∧ (t = true → stepQ (fun ρ' S' => ∃ n', n' < n ∧ P n' ρ' S') Q (b ρ S1))) : ∀ m n ρ S, n < m → P n ρ S → Q (whileN c b m ρ S)
  | 0, n, ρ, S, h, _ => by omega
  | m + 1, n, ρ, S, h, p => by
    obtain ⟨t, S1, e, hf, ht⟩ := hstep n ρ S p
    unfold whileN
    rw [e]
    cases t with
    | false => exact hf rfl
    | true =>
      have q := ht rfl
      show Q (match b ρ S1 with
        | .nx ρ' S' => whileN c b m ρ' S'
        | .ct ρ' S' => whileN c b m ρ' S'
        | .bk ρ' S' => .nx ρ' S'
        | r => r)
      cases hb : b ρ S1 <;> rw [hb] at q
      case nx ρ' S' => obtain ⟨n', h1, h2⟩ := q; exact whileI P Q hstep m n' ρ' S' (by omega) h2
      case ct ρ' S' => obtain ⟨n', h1, h2⟩ := q; exact whileI P Q hstep m n' ρ' S' (by omega) h2
      all_goals exact q
theorem r_while {c : MTs} {b : MSt} {ρ : Rho} {S : Sto} : sWhile c b ρ S = whileN c b FUEL ρ S := rfl
theorem whileI' {c : MTs} {b : MSt} {ρ : Rho} {S : Sto} {r : SR} (hr : whileN c b FUEL ρ S = r) (P : Nat → Rho → Sto → Prop) (Q : SR → Prop) (n : Nat) (hn : n < 1000000) (h0 : P n ρ S) (hstep : ∀ n ρ S, P n ρ S → ∃ t S1, c ρ S = .ok t S1 ∧ (t = false → Q (.nx ρ S1)) ∧ (t = true → stepQ (fun ρ' S' => ∃ n', n' < n ∧ P n' ρ' S') Q (b ρ S1))) : Q r := by
  rw [← hr]
  exact whileI P Q hstep FUEL n ρ S hn h0
/-! ### in, of ints -/
theorem flat_ints {xs : List Int} : (xs.map D.int).all flatD = true := by
  rw [List.all_eq_true]
  intro x hx
  obtain ⟨i, _, rfl⟩ := List.mem_map.mp hx
  rfl
theorem inFlat_ints {a : Int} : ∀ {xs : List Int}, inFlat (.int a) (xs.map D.int) = decide (a ∈ xs)
  | [] => by simp [inFlat]
  | x :: xs => by
    have ih := inFlat_ints (a := a) (xs := xs)
    unfold inFlat at ih ⊢
    rw [List.map_cons, List.any_cons, ih]
    by_cases h : x = a
    · subst h; simp [eqFlat]
    · have h2 : a ≠ x := fun z => h z.symm
      have h3 : (x == a) = false := by simpa using h
      show ((x == a) || decide (a ∈ xs)) = _
      rw [h3, Bool.false_or]
      simp [List.mem_cons, h2]
theorem inQ_ints {l : Nat} {xs : List Int} {a : Int} {S : Sto} (h : S[l]? = some (.lst (xs.map .int))) : inQ false (.int a) (.loc l) S = .ok (.bl (decide (a ∈ xs))) S := by
  unfold inQ
  rw [r_items, h, kLst_ok]
  dsimp only
  rw [if_pos ⟨rfl, flat_ints⟩, inFlat_ints]
  rfl
theorem cList_ok {tr : Bool} {S : Sto} {d : D} {xs : List D} (h : items S d = some xs) : cList tr [d] S = newL tr xs S := by
  simp only [cList, h]
theorem cList_vl {tr : Bool} {S : Sto} {xs : List D} : cList tr [.vl xs] S = newL tr xs S := rfl
theorem cList_cl {tr : Bool} {S : Sto} {xs : List D} : cList tr [.cl xs] S = newL tr xs S := rfl
theorem cList_tup {tr : Bool} {S : Sto} {xs : List D} : cList tr [.tup xs] S = newL tr xs S := rfl
def liL (tr : Bool) (o : Option (List D)) (S : Sto) : Res D := match o with
  | some xs => newL tr xs S
  | none => .stuck
theorem cList_loc {tr : Bool} {S : Sto} {l : Nat} : cList tr [.loc l] S = liL tr (kLst S[l]?) S := by
  (simp only [cList, r_items]) <;> (generalize kLst S[l]? = o; cases o <;> rfl)
theorem liL_ok {tr : Bool} {S : Sto} {xs : List D} : liL tr (some xs) S = newL tr xs S := rfl
/-! ### list.clear -/
def kBM0 (r : Res D) (p : D → Sto → Bool) (g : D → Sto → Res D) : Res D := r.bind fun d S1 => if p d S1 = true then g d S1 else .stuck
theorem r_bm0 {p : D → Sto → Bool} {g : D → Sto → Res D} {mo : MEx} {ρ : Rho} {S : Sto} : mBM0 p g mo ρ S = kBM0 (mo ρ S) p g := rfl
theorem kBM0_ok {p : D → Sto → Bool} {g : D → Sto → Res D} {d : D} {S : Sto} (h : p d S = true) : kBM0 (.ok d S) p g = g d S := if_pos h
def kClear (o : Option O) (l : Nat) (S : Sto) : Res D := match o with
  | some (.lst _) => .ok .non (S.set l (.lst []))
  | _ => .stuck
theorem r_lClear {l : Nat} {S : Sto} : lClear (.loc l) S = kClear S[l]? l S := by
  (simp only [lClear, kClear]) <;> (generalize S[l]? = o; rcases o with _ | ⟨_ | _, _⟩ | _ | _ <;> rfl)
theorem kClear_ok {l : Nat} {xs : List D} {S : Sto} : kClear (some (.lst xs)) l S = .ok .non (S.set l (.lst [])) := rfl
/-! ### steps of dicts, sorted, index -/
theorem r_dct {ρ : Rho} {S : Sto} : mDct ρ S = .ok (.loc S.length) (S ++ [.dct false []]) := rfl
def kDc (o : Option O) : Option (List (Key × D)) := match o with
  | some (.dct _ kvs) => some kvs
  | _ => none
theorem r_dctO {l : Nat} {S : Sto} : dctO S (.loc l) = kDc S[l]? := by unfold dctO kDc; rfl
theorem dctO_vd {ks : List Key} {xs : List D} {S : Sto} : dctO S (.vd ks xs) = some (ks.zip xs) := rfl
theorem dctO_vl {xs : List D} {S : Sto} : dctO S (.vl xs) = none := rfl
theorem kDc_ok {fz : Bool} {kvs : List (Key × D)} : kDc (some (.dct fz kvs)) = some kvs := rfl
theorem kDc_l {xs : List D} : kDc (some (.lst xs)) = none := rfl
theorem r_dGet {o i : D} {S : Sto} : dGet o i S = lkO (dctO S o) (keyD i) S := rfl
theorem key_i {i : Int} : keyD (.int i) = some (.inl i) := rfl
theorem key_s {i : Str} : keyD (.str i) = some (.inr i) := rfl
theorem lkO_ok {kvs : List (Key × D)} {k : Key} {S : Sto} : lkO (some kvs) (some k) S = kLk (valD kvs k) S := by
  (unfold lkO kLk; dsimp only) <;> (generalize valD kvs k = o; cases o <;> rfl)
theorem lkO_no {k : Option Key} {S : Sto} : lkO none k S = .stuck := rfl
theorem ixO_no {j : Int} {S : Sto} : ixO none j S = .stuck := rfl
theorem kSetI_d {fz : Bool} {kvs : List (Key × D)} {j : Int} {v : D} {l : Nat} {S : Sto} : kSetI (some (.dct fz kvs)) j v l S = none := rfl
theorem nxO_none {ρ : Rho} : nxO ρ none = .stuck := rfl
def kDP (o : Option O) (k : Key) (v : D) (l : Nat) (S : Sto) : Option Sto := match o with
  | some (.dct false kvs) => if kvs.length < sizeLine then some (S.set l (.dct false (putD kvs k v))) else none
  | _ => none
theorem r_dPutI {l : Nat} {i : Int} {v : D} {S : Sto} : dPut (.loc l) (.int i) v S = kDP S[l]? (.inl i) v l S := by
  (simp only [dPut, keyD, kDP]) <;> (generalize S[l]? = o; rcases o with _ | _ | ⟨_ | _, _⟩ | _ <;> rfl)
theorem r_dPutS {l : Nat} {i : Str} {v : D} {S : Sto} : dPut (.loc l) (.str i) v S = kDP S[l]? (.inr i) v l S := by
  (simp only [dPut, keyD, kDP]) <;> (generalize S[l]? = o; rcases o with _ | _ | ⟨_ | _, _⟩ | _ <;> rfl)
theorem kDP_ok {kvs : List (Key × D)} {k : Key} {v : D} {l : Nat} {S : Sto} (h : kvs.length < sizeLine) : kDP (some (.dct false kvs)) k v l S = some (S.set l (.dct false (putD kvs k v))) := if_pos h
def kSD1 (r : Res D) (mo mi : MEx) (ρ : Rho) : SR := r.st ρ fun v S1 => (mo ρ S1).st ρ fun o S2 => (mi ρ S2).st ρ fun i S3 => nxO ρ (dPut o i v S3)
def kSD2 (r : Res D) (mi : MEx) (v : D) (ρ : Rho) : SR := r.st ρ fun o S2 => (mi ρ S2).st ρ fun i S3 => nxO ρ (dPut o i v S3)
def kSD3 (r : Res D) (o v : D) (ρ : Rho) : SR := r.st ρ fun i S3 => nxO ρ (dPut o i v S3)
theorem r_sdp {mo mi mv : MEx} {ρ : Rho} {S : Sto} : sDPutM mo mi mv ρ S = kSD1 (mv ρ S) mo mi ρ := rfl
theorem kSD1_ok {mo mi : MEx} {ρ : Rho} {S : Sto} {d : D} : kSD1 (.ok d S) mo mi ρ = kSD2 (mo ρ S) mi d ρ := rfl
theorem kSD2_ok {mi : MEx} {ρ : Rho} {S : Sto} {x d : D} : kSD2 (.ok x S) mi d ρ = kSD3 (mi ρ S) x d ρ := rfl
theorem kSD3_ok {ρ : Rho} {S : Sto} {x y d : D} : kSD3 (.ok y S) x d ρ = nxO ρ (dPut x y d S) := rfl
def kSAlt (r : SR) (b : MSt) (ρ : Rho) (S : Sto) : SR := match r with
  | .stuck => b ρ S
  | r => r
theorem r_salt {a b : MSt} {ρ : Rho} {S : Sto} : sAlt a b ρ S = kSAlt (a ρ S) b ρ S := rfl
theorem kSAlt_nx {b : MSt} {ρ ρ' : Rho} {S S' : Sto} : kSAlt (.nx ρ' S') b ρ S = .nx ρ' S' := rfl
theorem kSAlt_stuck {b : MSt} {ρ : Rho} {S : Sto} : kSAlt .stuck b ρ S = b ρ S := rfl
def kTAlt (r : Res Bool) (b : MTs) (ρ : Rho) (S : Sto) : Res Bool := match r with
  | .stuck => b ρ S
  | r => r
theorem r_talt {a b : MTs} {ρ : Rho} {S : Sto} : tAltM a b ρ S = kTAlt (a ρ S) b ρ S := rfl
theorem kTAlt_ok {b : MTs} {ρ : Rho} {S S' : Sto} {c : Bool} : kTAlt (.ok c S') b ρ S = .ok c S' := rfl
theorem kTAlt_stuck {b : MTs} {ρ : Rho} {S : Sto} : kTAlt .stuck b ρ S = b ρ S := rfl
theorem r_dIn {neg : Bool} {x y : D} {S : Sto} : dIn neg x y S = inO neg (dctO S y) (keyD x) S := rfl
theorem inO_in {kvs : List (Key × D)} {k : Key} {S : Sto} : inO false (some kvs) (some k) S = .ok (.bl (valD kvs k).isSome) S := rfl
theorem inO_notin {kvs : List (Key × D)} {k : Key} {S : Sto} : inO true (some kvs) (some k) S = .ok (.bl (!(valD kvs k).isSome)) S := rfl
theorem inO_no {neg : Bool} {k : Option Key} {S : Sto} : inO neg none k S = .stuck := rfl
theorem ints_of {ns : List Int} : intsOf (ns.map D.int) = some ns := by
  unfold intsOf
  rw [optAll_map (h := D.int) (g := fun i : Int => i) (fun x _ => rfl), List.map_id']
theorem r_sort {tr : Bool} {d : D} {S : Sto} : cSort tr [d] S = sortO tr (lstO S d) (dctO S d) S := rfl
theorem sortO_l {tr : Bool} {ns : List Int} {o : Option (List (Key × D))} {S : Sto} : sortO tr (some (ns.map .int)) o S = newL tr ((sortI ns).map .int) S := by
  simp only [sortO, ints_of]
theorem sortO_d {tr : Bool} {kvs : List (Key × D)} {ks : List Int} {S : Sto} (e : intKeys kvs = some ks) : sortO tr none (some kvs) S = newL tr ((sortI ks).map .int) S := by
  simp only [sortO, e]
theorem r_tix {ys : List Str} {ms : MAr} {ρ : Rho} {S : Sto} : mTix ys ms ρ S = (ms ρ S).bind (tIndex ys) := rfl
theorem tIndex_ok {ys : List Str} {z : Str} {j : Nat} {S : Sto} (h : ys.findIdx? (fun y => decide (y = z)) = some j) : tIndex ys [.str z] S = .ok (.int (j : Nat)) S := by
  simp only [tIndex, h]
theorem lIndex_ok {d : D} {xs : List D} {y : D} {j : Nat} {S : Sto} (h : lstO S d = some xs) (h1 : flatD y = true) (h2 : xs.all flatD = true) (h3 : xs.findIdx? (fun z => eqFlat z y) = some j) : lIndex d [y] S = .ok (.int (j : Nat)) S := by
  simp only [lIndex, h, h1, h2, h3, and_self, if_true]
theorem r_listU {tr : Bool} {d : D} {S : Sto} : cListU tr [d] S = listO tr (items S d) (dctO S d) S := rfl
theorem listO_l {tr : Bool} {xs : List D} {o : Option (List (Key × D))} {S : Sto} : listO tr (some xs) o S = newL tr xs S := rfl
theorem listO_d {tr : Bool} {kvs : List (Key × D)} {S : Sto} : listO tr none (some kvs) S = newL tr (kvs.map fun kv => keyOf kv.1) S := rfl
/-! ### for over a dict -/
def kForD (o : Option O) (l : Nat) (i : Nat) (t : Tg) (b : MSt) (ρ : Rho) (S : Sto) : SR := match o with
  | some (.dct false kvs) => unl l (forGo ⟨kyGet l, kvs.length + 1⟩ t b (kvs.length + 1) 0 ρ (S.set l (.dct true kvs)))
  | _ => .stuck
theorem r_forD {i l : Nat} {t : Tg} {b : MSt} {ρ : Rho} {S : Sto} (h : ρ[i]? = some (some (.loc l))) : sForD i t b ρ S = kForD S[l]? l i t b ρ S := by
  unfold sForD
  rw [h]
  dsimp only
  cases e : S[l]? with
  | none => rfl
  | some o =>
    cases o with
    | lst _ => rfl
    | ins _ _ => rfl
    | dct fz kvs =>
      cases fz with
      | true => rfl
      | false =>
        have hl := get_lt e
        have g : (S.set l (.dct true kvs))[l]? = some (.dct true kvs) := set_get_self e
        have q : miK (mVar i) ρ (S.set l (.dct true kvs)) = .ok ⟨kyGet l, kvs.length + 1⟩ (S.set l (.dct true kvs)) := by
          unfold miK Res.it
          rw [r_var, h, kVar_ok, Res.bind_ok]
          simp only [itK, g]
        dsimp only [kForD]
        rw [r_for, q, kFor_ok]
theorem kForD_ok {l i : Nat} {t : Tg} {b : MSt} {ρ : Rho} {S : Sto} {kvs : List (Key × D)} : kForD (some (.dct false kvs)) l i t b ρ S = unl l (forGo ⟨kyGet l, kvs.length + 1⟩ t b (kvs.length + 1) 0 ρ (S.set l (.dct true kvs))) := rfl
theorem kyGet_ok {S : Sto} {l : Nat} {kvs : List (Key × D)} (h : S[l]? = some (.dct true kvs)) (i : Nat) : kyGet l i S = some ((kvs.map fun kv => keyOf kv.1)[i]?) := by
  unfold kyGet
  rw [h, List.getElem?_map]
theorem unl_nx {l : Nat} {ρ : Rho} {S : Sto} {kvs : List (Key × D)} (h : S[l]? = some (.dct true kvs)) : unl l (.nx ρ S) = .nx ρ (S.set l (.dct false kvs)) := by
  simp only [unl, h]
theorem unl_rt {l : Nat} {d : D} {S : Sto} {kvs : List (Key × D)} (h : S[l]? = some (.dct true kvs)) : unl l (.rt d S) = .rt d (S.set l (.dct false kvs)) := by
  simp only [unl, h]
end MP

set_option Elab.async false
set_option linter.all false
set_option maxRecDepth 100000
set_option maxHeartbeats 4000000
namespace MP
open PySem L2
/-! ### data that is compared -/
mutual
/-- no truths, no objects -/
def D.dat : D → Bool
  | .non => true
  | .int _ => true
  | .str x => PyData.canLay0 (.str x)
  | .tup xs => datAll xs
  | .vl xs => datAll xs
  | _ => false
def datAll : List D → Bool
  | [] => true
  | x :: xs => x.dat && datAll xs
end
mutual
def D.py : D → PyData
  | .int i => .int i
  | .str x => .str x
  | .tup xs => .tuple (pyAll xs)
  | .vl xs => .list (pyAll xs)
  | _ => .none
def pyAll : List D → List PyData
  | [] => []
  | x :: xs => x.py :: pyAll xs
end
mutual
def D.dep : D → Nat
  | .tup xs => depAll xs + 1
  | .vl xs => depAll xs + 1
  | _ => 0
def depAll : List D → Nat
  | [] => 0
  | x :: xs => max x.dep (depAll xs)
end
mutual
theorem dat_pd {S : Sto} : ∀ {n : Nat} {d : D}, d.dat = true → d.dep ≤ n → pd S n d = some d.py
  | n, .non, _, _ => by simp only [D.py]; exact pd_non
  | n, .int i, _, _ => by simp only [D.py]; exact pd_int
  | n, .str x, _, _ => by simp only [D.py]; exact pd_str
  | 0, .tup xs, _, h => by simp [D.dep] at h
  | n + 1, .tup xs, h, l => by
    simp only [D.dat] at h
    simp only [D.dep] at l
    simp only [pd, datAll_pd h (show depAll xs ≤ n by omega), D.py, Option.map_some]
  | 0, .vl xs, _, h => by simp [D.dep] at h
  | n + 1, .vl xs, h, l => by
    simp only [D.dat] at h
    simp only [D.dep] at l
    simp only [pd, datAll_pd h (show depAll xs ≤ n by omega), D.py, Option.map_some]
  | _, .bl _, h, _ | _, .cl _, h, _ | _, .vd _ _, h, _ | _, .vo _ _ _, h, _ | _, .xv _ _, h, _ | _, .loc _, h, _ => by simp [D.dat] at h
theorem datAll_pd {S : Sto} : ∀ {n : Nat} {ds : List D}, datAll ds = true → depAll ds ≤ n → optAll (pd S n) ds = some (pyAll ds)
  | _, [], _, _ => rfl
  | n, d :: ds, h, l => by
    simp only [datAll, Bool.and_eq_true] at h
    simp only [depAll] at l
    simp only [optAll, dat_pd (n := n) h.1 (by omega), datAll_pd (n := n) h.2 (by omega), pyAll]
end
mutual
theorem dat_lay : ∀ {d : D}, d.dat = true → d.py.canLay0 = true ∧ nb d.py = true
  | .non, _ => ⟨rfl, rfl⟩
  | .int i, _ => ⟨rfl, rfl⟩
  | .str x, h => ⟨by simp only [D.dat] at h; simp only [D.py]; exact h, by simp only [D.py, nb]⟩
  | .tup xs, h => by
    simp only [D.dat] at h
    simp only [D.py, PyData.canLay0, nb]
    exact datAll_lay h
  | .vl xs, h => by
    simp only [D.dat] at h
    simp only [D.py, PyData.canLay0, nb]
    exact datAll_lay h
  | .bl _, h | .cl _, h | .vd _ _, h | .vo _ _ _, h | .xv _ _, h | .loc _, h => by simp [D.dat] at h
theorem datAll_lay : ∀ {ds : List D}, datAll ds = true → PyData.canLayAll0 (pyAll ds) = true ∧ nbAll (pyAll ds) = true
  | [], _ => ⟨rfl, rfl⟩
  | d :: ds, h => by
    simp only [datAll, Bool.and_eq_true] at h
    simp only [pyAll, PyData.canLayAll0, nbAll, (dat_lay h.1).1, (dat_lay h.1).2, (datAll_lay h.2).1, (datAll_lay h.2).2, Bool.and_self, and_self]
end
mutual
theorem py_inj : ∀ {d e : D}, d.dat = true → e.dat = true → d.py = e.py → d = e := by
  intro d e h1 h2 h
  cases d <;> cases e <;> first
    | rfl
    | (exfalso; simp [D.dat] at h1; done)
    | (exfalso; simp [D.dat] at h2; done)
    | (exfalso; simp [D.py] at h; done)
    | (simp [D.py] at h; rw [h]; done)
    | (simp only [D.dat] at h1 h2; simp only [D.py, PyData.tuple.injEq, PyData.list.injEq] at h; rw [pyAll_inj h1 h2 h])
theorem pyAll_inj : ∀ {ds es : List D}, datAll ds = true → datAll es = true → pyAll ds = pyAll es → ds = es
  | [], [], _, _, _ => rfl
  | [], _ :: _, _, _, h => by simp [pyAll] at h
  | _ :: _, [], _, _, h => by simp [pyAll] at h
  | d :: ds, e :: es, h1, h2, h => by
    simp only [datAll, Bool.and_eq_true] at h1 h2
    simp only [pyAll, List.cons.injEq] at h
    rw [py_inj h1.1 h2.1 h.1, pyAll_inj h1.2 h2.2 h.2]
end
theorem eqD_dat {S : Sto} {x y : D} [Decidable (x = y)] (hx : x.dat = true) (hy : y.dat = true) (dx : x.dep ≤ 8) (dy : y.dep ≤ 8) : eqD S x y = some (decide (x = y)) := by
  have px := dat_pd (S := S) hx dx
  have py := dat_pd (S := S) hy dy
  by_cases h : x = y
  · rw [decide_eq_true h]
    subst h
    exact eqD_same px py (dat_lay hx).1
  · rw [decide_eq_false h]
    have hv : PyData.eqv x.py y.py = false := by
      cases q : PyData.eqv x.py y.py with
      | false => rfl
      | true => exact absurd (py_inj hx hy (eqv_eq (dat_lay hx).2 (dat_lay hy).2 q)) h
    by_cases hs : x.scalar = false ∨ y.scalar = false
    · exact eqD_pd px py (dat_lay hx).1 (dat_lay hy).1 false hv hs
    · cases x <;> cases y <;> first
        | (exact absurd (.inl rfl) hs)
        | (exact absurd (.inr rfl) hs)
        | (exfalso; simp [D.dat] at hx; done)
        | (exfalso; simp [D.dat] at hy; done)
        | exact absurd rfl h
        | (simp only [eqD]; done)
        | (simp only [eqD]; exact congrArg some (decide_eq_false fun z => h (by rw [z])))
theorem eqR_dat {S : Sto} {x y : D} [Decidable (x = y)] (hx : x.dat = true) (hy : y.dat = true) (dx : x.dep ≤ 8) (dy : y.dep ≤ 8) : eqR x y S = .ok (.bl (decide (x = y))) S := by
  unfold eqR; rw [eqD_dat hx hy dx dy]
theorem neR_dat {S : Sto} {x y : D} [Decidable (x = y)] (hx : x.dat = true) (hy : y.dat = true) (dx : x.dep ≤ 8) (dy : y.dep ≤ 8) : neR x y S = .ok (.bl (!decide (x = y))) S := by
  unfold neR; rw [eqD_dat hx hy dx dy]
theorem eqR_refl {S : Sto} {x : D} (hx : x.dat = true) (dx : x.dep ≤ 8) : eqR x x S = .ok (.bl true) S := by
  classical rw [eqR_dat hx hx dx dx, decide_eq_true rfl]
theorem neR_refl {S : Sto} {x : D} (hx : x.dat = true) (dx : x.dep ≤ 8) : neR x x S = .ok (.bl false) S := by
  classical rw [neR_dat hx hx dx dx, decide_eq_true rfl]; rfl
theorem eqR_diff {S : Sto} {x y : D} (h : x ≠ y) (hx : x.dat = true) (hy : y.dat = true) (dx : x.dep ≤ 8) (dy : y.dep ≤ 8) : eqR x y S = .ok (.bl false) S := by
  classical rw [eqR_dat hx hy dx dy, decide_eq_false h]
theorem neR_diff {S : Sto} {x y : D} (h : x ≠ y) (hx : x.dat = true) (hy : y.dat = true) (dx : x.dep ≤ 8) (dy : y.dep ≤ 8) : neR x y S = .ok (.bl true) S := by
  classical rw [neR_dat hx hy dx dy, decide_eq_false h]; rfl
/-- a list of the store is as its value -/
theorem eqD_locL {S : Sto} {l : Nat} {xs : List D} {y : D} (h : S[l]? = some (.lst xs)) : eqD S (.loc l) y = eqD S (.vl xs) y := by
  have e : pd S 8 (.loc l) = pd S 8 (.vl xs) := by simp only [pd, h]
  cases y <;> simp only [eqD, deepEq, e]
theorem eqD_locR {S : Sto} {l : Nat} {xs : List D} {y : D} (h : S[l]? = some (.lst xs)) : eqD S y (.loc l) = eqD S y (.vl xs) := by
  have e : pd S 8 (.loc l) = pd S 8 (.vl xs) := by simp only [pd, h]
  cases y <;> simp only [eqD, deepEq, e]
theorem eqD_clL {S : Sto} {xs : List D} {y : D} : eqD S (.cl xs) y = eqD S (.vl xs) y := by
  have e : pd S 8 (.cl xs) = pd S 8 (.vl xs) := by simp only [pd]
  cases y <;> simp only [eqD, deepEq, e]
theorem eqD_clR {S : Sto} {xs : List D} {y : D} : eqD S y (.cl xs) = eqD S y (.vl xs) := by
  have e : pd S 8 (.cl xs) = pd S 8 (.vl xs) := by simp only [pd]
  cases y <;> simp only [eqD, deepEq, e]
def kEqL (o : Option O) (l : Nat) (y : D) (S : Sto) : Res D := match o with
  | some (.lst xs) => eqR (.vl xs) y S
  | _ => eqR (.loc l) y S
def kEqR (o : Option O) (l : Nat) (y : D) (S : Sto) : Res D := match o with
  | some (.lst xs) => eqR y (.vl xs) S
  | _ => eqR y (.loc l) S
def kNeL (o : Option O) (l : Nat) (y : D) (S : Sto) : Res D := match o with
  | some (.lst xs) => neR (.vl xs) y S
  | _ => neR (.loc l) y S
def kNeR (o : Option O) (l : Nat) (y : D) (S : Sto) : Res D := match o with
  | some (.lst xs) => neR y (.vl xs) S
  | _ => neR y (.loc l) S
theorem r_eqL {l : Nat} {y : D} {S : Sto} : eqR (.loc l) y S = kEqL S[l]? l y S := by
  unfold kEqL; split
  · rename_i xs e; unfold eqR; rw [eqD_locL e]
  · rfl
theorem r_eqR {l : Nat} {y : D} {S : Sto} : eqR y (.loc l) S = kEqR S[l]? l y S := by
  unfold kEqR; split
  · rename_i xs e; unfold eqR; rw [eqD_locR e]
  · rfl
theorem r_neL {l : Nat} {y : D} {S : Sto} : neR (.loc l) y S = kNeL S[l]? l y S := by
  unfold kNeL; split
  · rename_i xs e; unfold neR; rw [eqD_locL e]
  · rfl
theorem r_neR {l : Nat} {y : D} {S : Sto} : neR y (.loc l) S = kNeR S[l]? l y S := by
  unfold kNeR; split
  · rename_i xs e; unfold neR; rw [eqD_locR e]
  · rfl
theorem kEqL_ok {xs : List D} {l : Nat} {y : D} {S : Sto} : kEqL (some (.lst xs)) l y S = eqR (.vl xs) y S := rfl
theorem kEqR_ok {xs : List D} {l : Nat} {y : D} {S : Sto} : kEqR (some (.lst xs)) l y S = eqR y (.vl xs) S := rfl
theorem kNeL_ok {xs : List D} {l : Nat} {y : D} {S : Sto} : kNeL (some (.lst xs)) l y S = neR (.vl xs) y S := rfl
theorem kNeR_ok {xs : List D} {l : Nat} {y : D} {S : Sto} : kNeR (some (.lst xs)) l y S = neR y (.vl xs) S := rfl
/-! facts of data -/
theorem dat_non : D.dat .non = true := rfl
theorem dat_int {i : Int} : D.dat (.int i) = true := rfl
theorem dat_tup {xs : List D} : D.dat (.tup xs) = datAll xs := by simp only [D.dat]
theorem dat_vl {xs : List D} : D.dat (.vl xs) = datAll xs := by simp only [D.dat]
theorem datAll_nil : datAll [] = true := rfl
theorem datAll_cons {x : D} {xs : List D} : datAll (x :: xs) = (x.dat && datAll xs) := by simp only [datAll]
theorem datAll_mem : ∀ {xs : List D}, datAll xs = true ↔ ∀ x ∈ xs, x.dat = true
  | [] => by simp [datAll]
  | x :: xs => by simp only [datAll, Bool.and_eq_true, datAll_mem (xs := xs), List.forall_mem_cons]
theorem datAll_append {xs ys : List D} : datAll (xs ++ ys) = (datAll xs && datAll ys) := by
  induction xs with
  | nil => simp [datAll]
  | cons x xs ih => simp only [List.cons_append, datAll, ih, Bool.and_assoc]
theorem dep_non : D.dep .non = 0 := rfl
theorem dep_int {i : Int} : D.dep (.int i) = 0 := rfl
theorem dep_str {i : Str} : D.dep (.str i) = 0 := rfl
theorem dep_tup {xs : List D} : D.dep (.tup xs) = depAll xs + 1 := by simp only [D.dep]
theorem dep_vl {xs : List D} : D.dep (.vl xs) = depAll xs + 1 := by simp only [D.dep]
theorem depAll_nil : depAll [] = 0 := rfl
theorem depAll_cons {x : D} {xs : List D} : depAll (x :: xs) = max x.dep (depAll xs) := by simp only [depAll]
theorem depAll_le {n : Nat} : ∀ {xs : List D}, depAll xs ≤ n ↔ ∀ x ∈ xs, x.dep ≤ n
  | [] => by simp [depAll]
  | x :: xs => by simp only [depAll, List.forall_mem_cons, ← depAll_le (xs := xs)]; omega
theorem datAll_ints {ns : List Int} : datAll (ns.map .int) = true := datAll_mem.mpr fun x h => by
  obtain ⟨i, _, rfl⟩ := List.mem_map.mp h; rfl
theorem depAll_ints {ns : List Int} : depAll (ns.map .int) = 0 := Nat.le_zero.mp (depAll_le.mpr fun x h => by
  obtain ⟨i, _, rfl⟩ := List.mem_map.mp h; exact Nat.le_refl _)
mutual
theorem dat_pure : ∀ {d : D}, d.dat = true → d.pureB = true
  | .non, _ | .int _, _ | .str _, _ | .vl _, _ => rfl
  | .tup xs, h => by simp only [D.dat] at h; simp only [D.pureB]; exact datAll_pure h
  | .bl _, h | .cl _, h | .vd _ _, h | .vo _ _ _, h | .xv _ _, h | .loc _, h => by simp [D.dat] at h
theorem datAll_pure : ∀ {ds : List D}, datAll ds = true → pureAll ds = true
  | [], _ => rfl
  | d :: ds, h => by
    simp only [datAll, Bool.and_eq_true] at h
    simp only [pureAll, dat_pure h.1, datAll_pure h.2, Bool.and_self]
end
/-! ### a comprehension as a value -/
theorem lc_val {it : MIt} {t : Tg} {tt : MTs} {me : MEx} {ρ : Rho} {S : Sto} (xs : List D) (b : D → Bool) (f : D → D) (hf : it.fuel = xs.length + 1)
    (hget : ∀ i acc, it.get i (S ++ [.lst acc]) = some xs[i]?)
    (hstep : ∀ x, x ∈ xs → ∀ acc, ∃ ρ1, tgM t x ρ (S ++ [.lst acc]) = some ρ1 ∧ tt ρ1 (S ++ [.lst acc]) = .ok (b x) (S ++ [.lst acc]) ∧ (b x = true → me ρ1 (S ++ [.lst acc]) = .ok (f x) (S ++ [.lst acc])))
    (hl : xs.length ≤ 100000) (hp : pureAll ((xs.filter b).map f) = true) : exitR false S (lcGo it t tt me ρ S.length it.fuel 0 (S ++ [.lst []])) = .ok (.vl ((xs.filter b).map f)) S := by
  rw [hf, lc_pure xs b f hget hstep hl (by omega), exit_app, ite_f, exK_none, fz_loc0, get_last, kFz_lst hp, exO_some, take_app]
theorem lc_valx {t : Tg} {tt : MTs} {me : MEx} {ρ : Rho} {S : Sto} {xs : List D} (b : D → Bool) (f : D → D)
    (hstep : ∀ x, x ∈ xs → ∀ acc, ∃ ρ1, tgM t x ρ (S ++ [.lst acc]) = some ρ1 ∧ tt ρ1 (S ++ [.lst acc]) = .ok (b x) (S ++ [.lst acc]) ∧ (b x = true → me ρ1 (S ++ [.lst acc]) = .ok (f x) (S ++ [.lst acc])))
    (hl : xs.length ≤ 100000) (hp : pureAll ((xs.filter b).map f) = true) : exitR false S (lcGo ⟨fixGet xs, xs.length + 1⟩ t tt me ρ S.length (xs.length + 1) 0 (S ++ [.lst []])) = .ok (.vl ((xs.filter b).map f)) S :=
  lc_val (it := ⟨fixGet xs, xs.length + 1⟩) xs b f rfl (fun _ _ => rfl) hstep hl hp
/-- without a test -/
theorem lc_map {t : Tg} {me : MEx} {ρ : Rho} {S : Sto} {xs : List D} (f : D → D)
    (hstep : ∀ x, x ∈ xs → ∀ acc, ∃ ρ1, tgM t x ρ (S ++ [.lst acc]) = some ρ1 ∧ me ρ1 (S ++ [.lst acc]) = .ok (f x) (S ++ [.lst acc]))
    (hl : xs.length ≤ 100000) (hp : pureAll (xs.map f) = true) : exitR false S (lcGo ⟨fixGet xs, xs.length + 1⟩ t tYesM me ρ S.length (xs.length + 1) 0 (S ++ [.lst []])) = .ok (.vl (xs.map f)) S := by
  have e : xs.filter (fun _ => true) = xs := List.filter_eq_self.mpr fun _ _ => rfl
  have := lc_valx (t := t) (tt := tYesM) (me := me) (ρ := ρ) (S := S) (xs := xs) (fun _ => true) f (fun x hx acc => by
    obtain ⟨ρ1, h1, h2⟩ := hstep x hx acc
    exact ⟨ρ1, h1, rfl, fun _ => h2⟩) hl (by rw [e]; exact hp)
  rw [e] at this
  exact this
theorem lc_mapR {t : Tg} {me : MEx} {ρ : Rho} {S : Sto} {lo : Int} {n : Nat} (f : D → D)
    (hstep : ∀ x, x ∈ rngL lo n → ∀ acc, ∃ ρ1, tgM t x ρ (S ++ [.lst acc]) = some ρ1 ∧ me ρ1 (S ++ [.lst acc]) = .ok (f x) (S ++ [.lst acc]))
    (hl : n ≤ 100000) (hp : pureAll ((rngL lo n).map f) = true) : exitR false S (lcGo ⟨rngGet lo n, n + 1⟩ t tYesM me ρ S.length (n + 1) 0 (S ++ [.lst []])) = .ok (.vl ((rngL lo n).map f)) S := by
  have e : (rngL lo n).filter (fun _ => true) = rngL lo n := List.filter_eq_self.mpr fun _ _ => rfl
  have := lc_val (it := ⟨rngGet lo n, n + 1⟩) (t := t) (tt := tYesM) (me := me) (ρ := ρ) (S := S) (rngL lo n) (fun _ => true) f (by rw [rngL_len]) (fun i acc => @rng_get lo n i (S ++ [.lst acc])) (fun x hx acc => by
    obtain ⟨ρ1, h1, h2⟩ := hstep x hx acc
    exact ⟨ρ1, h1, rfl, fun _ => h2⟩) (by rw [rngL_len]; exact hl) (by rw [e]; exact hp)
  rw [e] at this
  exact this
/-! ### places of short lists -/
theorem at_0' {a : D} {t : List D} : atI (a :: t) 0 = some a := by unfold atI ixN; simp
theorem at_1' {a0 a1 : D} {t : List D} : atI (a0 :: a1 :: t) 1 = some a1 := atI_nat (j := 1) rfl
theorem at_2' {a0 a1 a2 : D} {t : List D} : atI (a0 :: a1 :: a2 :: t) 2 = some a2 := atI_nat (j := 2) rfl
theorem at_3' {a0 a1 a2 a3 : D} {t : List D} : atI (a0 :: a1 :: a2 :: a3 :: t) 3 = some a3 := atI_nat (j := 3) rfl
theorem at_4' {a0 a1 a2 a3 a4 : D} {t : List D} : atI (a0 :: a1 :: a2 :: a3 :: a4 :: t) 4 = some a4 := atI_nat (j := 4) rfl
theorem at_5' {a0 a1 a2 a3 a4 a5 : D} {t : List D} : atI (a0 :: a1 :: a2 :: a3 :: a4 :: a5 :: t) 5 = some a5 := atI_nat (j := 5) rfl
theorem at_6' {a0 a1 a2 a3 a4 a5 a6 : D} {t : List D} : atI (a0 :: a1 :: a2 :: a3 :: a4 :: a5 :: a6 :: t) 6 = some a6 := atI_nat (j := 6) rfl
theorem at_7' {a0 a1 a2 a3 a4 a5 a6 a7 : D} {t : List D} : atI (a0 :: a1 :: a2 :: a3 :: a4 :: a5 :: a6 :: a7 :: t) 7 = some a7 := atI_nat (j := 7) rfl
theorem at_8' {a0 a1 a2 a3 a4 a5 a6 a7 a8 : D} {t : List D} : atI (a0 :: a1 :: a2 :: a3 :: a4 :: a5 :: a6 :: a7 :: a8 :: t) 8 = some a8 := atI_nat (j := 8) rfl
theorem at_9' {a0 a1 a2 a3 a4 a5 a6 a7 a8 a9 : D} {t : List D} : atI (a0 :: a1 :: a2 :: a3 :: a4 :: a5 :: a6 :: a7 :: a8 :: a9 :: t) 9 = some a9 := atI_nat (j := 9) rfl
theorem at_10' {a0 a1 a2 a3 a4 a5 a6 a7 a8 a9 a10 : D} {t : List D} : atI (a0 :: a1 :: a2 :: a3 :: a4 :: a5 :: a6 :: a7 :: a8 :: a9 :: a10 :: t) 10 = some a10 := atI_nat (j := 10) rfl
theorem at_11' {a0 a1 a2 a3 a4 a5 a6 a7 a8 a9 a10 a11 : D} {t : List D} : atI (a0 :: a1 :: a2 :: a3 :: a4 :: a5 :: a6 :: a7 :: a8 :: a9 :: a10 :: a11 :: t) 11 = some a11 := atI_nat (j := 11) rfl
theorem at_12' {a0 a1 a2 a3 a4 a5 a6 a7 a8 a9 a10 a11 a12 : D} {t : List D} : atI (a0 :: a1 :: a2 :: a3 :: a4 :: a5 :: a6 :: a7 :: a8 :: a9 :: a10 :: a11 :: a12 :: t) 12 = some a12 := atI_nat (j := 12) rfl
theorem at_13' {a0 a1 a2 a3 a4 a5 a6 a7 a8 a9 a10 a11 a12 a13 : D} {t : List D} : atI (a0 :: a1 :: a2 :: a3 :: a4 :: a5 :: a6 :: a7 :: a8 :: a9 :: a10 :: a11 :: a12 :: a13 :: t) 13 = some a13 := atI_nat (j := 13) rfl
theorem at_14' {a0 a1 a2 a3 a4 a5 a6 a7 a8 a9 a10 a11 a12 a13 a14 : D} {t : List D} : atI (a0 :: a1 :: a2 :: a3 :: a4 :: a5 :: a6 :: a7 :: a8 :: a9 :: a10 :: a11 :: a12 :: a13 :: a14 :: t) 14 = some a14 := atI_nat (j := 14) rfl
theorem at_15' {a0 a1 a2 a3 a4 a5 a6 a7 a8 a9 a10 a11 a12 a13 a14 a15 : D} {t : List D} : atI (a0 :: a1 :: a2 :: a3 :: a4 :: a5 :: a6 :: a7 :: a8 :: a9 :: a10 :: a11 :: a12 :: a13 :: a14 :: a15 :: t) 15 = some a15 := atI_nat (j := 15) rfl
theorem at_16' {a0 a1 a2 a3 a4 a5 a6 a7 a8 a9 a10 a11 a12 a13 a14 a15 a16 : D} {t : List D} : atI (a0 :: a1 :: a2 :: a3 :: a4 :: a5 :: a6 :: a7 :: a8 :: a9 :: a10 :: a11 :: a12 :: a13 :: a14 :: a15 :: a16 :: t) 16 = some a16 := atI_nat (j := 16) rfl
theorem at_17' {a0 a1 a2 a3 a4 a5 a6 a7 a8 a9 a10 a11 a12 a13 a14 a15 a16 a17 : D} {t : List D} : atI (a0 :: a1 :: a2 :: a3 :: a4 :: a5 :: a6 :: a7 :: a8 :: a9 :: a10 :: a11 :: a12 :: a13 :: a14 :: a15 :: a16 :: a17 :: t) 17 = some a17 := atI_nat (j := 17) rfl
theorem at_18' {a0 a1 a2 a3 a4 a5 a6 a7 a8 a9 a10 a11 a12 a13 a14 a15 a16 a17 a18 : D} {t : List D} : atI (a0 :: a1 :: a2 :: a3 :: a4 :: a5 :: a6 :: a7 :: a8 :: a9 :: a10 :: a11 :: a12 :: a13 :: a14 :: a15 :: a16 :: a17 :: a18 :: t) 18 = some a18 := atI_nat (j := 18) rfl
theorem at_19' {a0 a1 a2 a3 a4 a5 a6 a7 a8 a9 a10 a11 a12 a13 a14 a15 a16 a17 a18 a19 : D} {t : List D} : atI (a0 :: a1 :: a2 :: a3 :: a4 :: a5 :: a6 :: a7 :: a8 :: a9 :: a10 :: a11 :: a12 :: a13 :: a14 :: a15 :: a16 :: a17 :: a18 :: a19 :: t) 19 = some a19 := atI_nat (j := 19) rfl
theorem at_m1 {a : D} {t : List D} : atI (a :: t) (-1) = (a :: t).getLast? := by
  unfold atI ixN
  rw [if_neg (by omega), if_pos (by simp; omega), Option.bind_some, List.getLast?_eq_getElem?]
  congr 1
  simp only [List.length_cons]
  omega
/-! more steps -/
theorem lk_ne {f g : Fl} {x : D} {fs : List (Fl × D)} (h : f ≠ g) : List.lookup f ((g, x) :: fs) = List.lookup f fs := by
  have : (f == g) = false := by simpa using h
  simp only [List.lookup, this]
theorem ty_vl (i : List D) (S : Sto) : D.ty (.vl i) S = some "list" := rfl
theorem ty_cl (i : List D) (S : Sto) : D.ty (.cl i) S = some "list" := rfl
theorem ty_vd (ks : List Key) (i : List D) (S : Sto) : D.ty (.vd ks i) S = some "dict" := rfl
theorem ty_vo (c : Cl) (fs : List Fl) (i : List D) (S : Sto) : D.ty (.vo c fs i) S = none := rfl
theorem isN_vl (xs : List D) : D.isN (.vl xs) = false := rfl
theorem isN_vo (c : Cl) (fs : List Fl) (i : List D) : D.isN (.vo c fs i) = false := rfl
def kIso (o : Option String) (d : D) (tab : List (Cl × Bool)) (S : Sto) : Res D := match o with
  | some _ => .ok (.bl false) S
  | none => match d with
    | .loc l => match S[l]? with
      | some (.ins c _) => isoF tab c S
      | _ => .stuck
    | .vo c _ _ => isoF tab c S
    | _ => .stuck
theorem r_iso {tab : List (Cl × Bool)} {m : MEx} {ρ : Rho} {S : Sto} : mIso tab m ρ S = (m ρ S).bind (isoR tab) := rfl
theorem r_isoR {tab : List (Cl × Bool)} {d : D} {S : Sto} : isoR tab d S = kIso (d.ty S) d tab S := by unfold isoR kIso; rfl
theorem kIso_no {t : String} {d : D} {tab : List (Cl × Bool)} {S : Sto} : kIso (some t) d tab S = .ok (.bl false) S := rfl
theorem kIso_vo {c : Cl} {fs : List Fl} {xs : List D} {tab : List (Cl × Bool)} {S : Sto} : kIso none (.vo c fs xs) tab S = isoF tab c S := rfl
theorem isoF_ok {c : Cl} {b : Bool} {tab : List (Cl × Bool)} {S : Sto} (h : tab.find? (fun x => decide (x.1 = c)) = some (c, b)) : isoF tab c S = .ok (.bl b) S := by
  unfold isoF; rw [h]
theorem rngL_0 {lo : Int} : rngL lo 0 = [] := rfl
theorem rngL_s {lo : Int} {n : Nat} : rngL lo (n + 1) = .int lo :: rngL (lo + 1) n := by
  unfold rngL
  rw [List.range_succ_eq_map, List.map_cons, List.map_map]
  simp only [Int.natCast_zero, Int.add_zero, List.cons.injEq, true_and]
  refine List.map_congr_left fun k _ => ?_
  simp only [Function.comp, Nat.succ_eq_add_one]
  congr 1
  omega
theorem rngL_mem {lo : Int} {n : Nat} {x : D} (h : x ∈ rngL lo n) : ∃ k : Nat, k < n ∧ x = .int (lo + k) := by
  obtain ⟨k, hk, rfl⟩ := List.mem_map.mp h
  exact ⟨k, List.mem_range.mp hk, rfl⟩
theorem rngL_get {lo : Int} {n i : Nat} (h : i < n) : (rngL lo n)[i]? = some (.int (lo + i)) := by
  simp [rngL, h]
theorem rng_fix {lo : Int} {n k : Nat} : (⟨rngGet lo n, k⟩ : MIt) = ⟨fixGet (rngL lo n), k⟩ := by
  congr 1
  funext i S
  exact @rng_get lo n i S
theorem enu_fix {xs : List D} {k : Nat} : (⟨enFix xs, k⟩ : MIt) = ⟨fixGet (enuL xs), k⟩ := by
  congr 1
  funext i S
  simp [enFix, fixGet, enuL, List.getElem?_mapIdx]
theorem enuL_len {xs : List D} : (enuL xs).length = xs.length := by simp [enuL]
theorem enu_vl {xs : List D} {S : Sto} : itEn [.vl xs] S = some ⟨fixGet (enuL xs), xs.length + 1⟩ := by rw [← enu_fix]; rfl
theorem enu_cl {xs : List D} {S : Sto} : itEn [.cl xs] S = some ⟨fixGet (enuL xs), xs.length + 1⟩ := by rw [← enu_fix]; rfl
theorem rg1 {j : Int} {S : Sto} (h0 : 0 ≤ j) (h1 : j < 2 ^ 62) : itR1 [.int j] S = some ⟨fixGet (rngL 0 j.toNat), j.toNat + 1⟩ := by rw [itR1_ok h0 h1, rng_fix]
theorem rg2 {i j : Int} {S : Sto} (h0 : 0 ≤ i) (h1 : i < 2 ^ 62) (h2 : 0 ≤ j) (h3 : j < 2 ^ 62) : itR2 [.int i, .int j] S = some ⟨fixGet (rngL i (j - i).toNat), (j - i).toNat + 1⟩ := by rw [itR2_ok ⟨h0, h1⟩ ⟨h2, h3⟩, rng_fix]
theorem rg1n {n : Nat} {S : Sto} (h : n < 2 ^ 62) : itR1 [.int (n : Int)] S = some ⟨fixGet (rngL 0 n), n + 1⟩ := by
  rw [rg1 (by omega) (by omega), Int.toNat_natCast]
theorem rg2n {i j : Nat} {S : Sto} (h : i < 2 ^ 62) (h2 : j < 2 ^ 62) : itR2 [.int (i : Int), .int (j : Int)] S = some ⟨fixGet (rngL i (j - i)), j - i + 1⟩ := by
  rw [rg2 (by omega) (by omega) (by omega) (by omega), show ((j : Int) - (i : Int)).toNat = j - i by omega]
theorem rg2m {i : Int} {j : Nat} {S : Sto} (h0 : 0 ≤ i) (h1 : i < 2 ^ 62) (h : i + j < 2 ^ 62) : itR2 [.int i, .int (i + (j : Int))] S = some ⟨fixGet (rngL i j), j + 1⟩ := by
  rw [rg2 h0 h1 (by omega) (by omega), show (i + (j : Int) - i).toNat = j by omega]
/-! a comprehension that is a value -/
noncomputable def lcF (xs : List D) (k : Nat) (t : Tg) (tt : MTs) (me : MEx) (ρ : Rho) (S : Sto) : Res D := exitR false S (lcGo ⟨fixGet xs, k⟩ t tt me ρ S.length k 0 (S ++ [.lst []]))
noncomputable def kLV (S : Sto) (r : Res MIt) (t : Tg) (tt : MTs) (me : MEx) (own : List Nat) (ρ : Rho) : Res D := exitR false S (kLc r t tt me own ρ)
theorem r_lcv {mi : MIx} {t : Tg} {tt : MTs} {me : MEx} {own : List Nat} {ρ : Rho} {S : Sto} : mLcV mi t tt me own ρ S = kLV S (mi ρ S) t tt me own ρ := rfl
theorem kLV_fix {xs : List D} {k : Nat} {t : Tg} {tt : MTs} {me : MEx} {own : List Nat} {ρ : Rho} {S : Sto} : kLV S (.ok ⟨fixGet xs, k⟩ S) t tt me own ρ = lcF xs k t tt me (clr own ρ) S := rfl
theorem kLV_lst {l k : Nat} {t : Tg} {tt : MTs} {me : MEx} {own : List Nat} {ρ : Rho} {S : Sto} : kLV S (.ok ⟨lstGet l, k⟩ S) t tt me own ρ = exitR false S (lcGo ⟨lstGet l, k⟩ t tt me (clr own ρ) S.length k 0 (S ++ [.lst []])) := rfl
theorem lcF_fil {t : Tg} {tt : MTs} {me : MEx} {ρ : Rho} {S : Sto} {xs : List D} {k : Nat} (b : D → Bool) (f : D → D)
    (hstep : ∀ x, x ∈ xs → ∀ acc, ∃ ρ1, tgM t x ρ (S ++ [.lst acc]) = some ρ1 ∧ tt ρ1 (S ++ [.lst acc]) = .ok (b x) (S ++ [.lst acc]) ∧ (b x = true → me ρ1 (S ++ [.lst acc]) = .ok (f x) (S ++ [.lst acc])))
    (hk : k = xs.length + 1) (hl : xs.length ≤ 100000) (hp : pureAll ((xs.filter b).map f) = true) : lcF xs k t tt me ρ S = .ok (.vl ((xs.filter b).map f)) S := by
  subst hk
  exact lc_valx b f hstep hl hp
theorem lcF_map {t : Tg} {me : MEx} {ρ : Rho} {S : Sto} {xs : List D} {k : Nat} (f : D → D)
    (hstep : ∀ x, x ∈ xs → ∀ acc, ∃ ρ1, tgM t x ρ (S ++ [.lst acc]) = some ρ1 ∧ me ρ1 (S ++ [.lst acc]) = .ok (f x) (S ++ [.lst acc]))
    (hk : k = xs.length + 1) (hl : xs.length ≤ 100000) (hp : pureAll (xs.map f) = true) : lcF xs k t tYesM me ρ S = .ok (.vl (xs.map f)) S := by
  subst hk
  exact lc_map f hstep hl hp
/-- over a list of the store -/
theorem lcL_map {t : Tg} {me : MEx} {ρ : Rho} {S : Sto} {xs : List D} {l k : Nat} (hS : S[l]? = some (.lst xs)) (f : D → D)
    (hstep : ∀ x, x ∈ xs → ∀ acc, ∃ ρ1, tgM t x ρ (S ++ [.lst acc]) = some ρ1 ∧ me ρ1 (S ++ [.lst acc]) = .ok (f x) (S ++ [.lst acc]))
    (hk : k = xs.length + 1) (hl : xs.length ≤ 100000) (hp : pureAll (xs.map f) = true) : exitR false S (lcGo ⟨lstGet l, k⟩ t tYesM me ρ S.length k 0 (S ++ [.lst []])) = .ok (.vl (xs.map f)) S := by
  subst hk
  have e : xs.filter (fun _ => true) = xs := List.filter_eq_self.mpr fun _ _ => rfl
  have := lc_val (it := ⟨lstGet l, xs.length + 1⟩) (t := t) (tt := tYesM) (me := me) (ρ := ρ) (S := S) xs (fun _ => true) f rfl (fun i acc => lstGet_ok (get_app hS) i) (fun x hx acc => by
    obtain ⟨ρ1, h1, h2⟩ := hstep x hx acc
    exact ⟨ρ1, h1, rfl, fun _ => h2⟩) hl (by rw [e]; exact hp)
  rw [e] at this
  exact this
/-! strings that are compared -/
theorem strOk_lit {x : Str} (h : PyData.canLay0 (.str x) = true) : D.dat (.str x) = true := by simp only [D.dat]; exact h
/-! types -/
theorem it_NoneType_bool : isT "NoneType" "bool" = false := by decide
theorem it_NoneType_str : isT "NoneType" "str" = false := by decide
theorem it_NoneType_int : isT "NoneType" "int" = false := by decide
theorem it_NoneType_tuple : isT "NoneType" "tuple" = false := by decide
theorem it_NoneType_list : isT "NoneType" "list" = false := by decide
theorem it_NoneType_dict : isT "NoneType" "dict" = false := by decide
theorem it_bool_bool : isT "bool" "bool" = true := by decide
theorem it_bool_str : isT "bool" "str" = false := by decide
theorem it_bool_int : isT "bool" "int" = true := by decide
theorem it_bool_tuple : isT "bool" "tuple" = false := by decide
theorem it_bool_list : isT "bool" "list" = false := by decide
theorem it_bool_dict : isT "bool" "dict" = false := by decide
theorem it_int_bool : isT "int" "bool" = false := by decide
theorem it_int_str : isT "int" "str" = false := by decide
theorem it_int_int : isT "int" "int" = true := by decide
theorem it_int_tuple : isT "int" "tuple" = false := by decide
theorem it_int_list : isT "int" "list" = false := by decide
theorem it_int_dict : isT "int" "dict" = false := by decide
theorem it_str_bool : isT "str" "bool" = false := by decide
theorem it_str_str : isT "str" "str" = true := by decide
theorem it_str_int : isT "str" "int" = false := by decide
theorem it_str_tuple : isT "str" "tuple" = false := by decide
theorem it_str_list : isT "str" "list" = false := by decide
theorem it_str_dict : isT "str" "dict" = false := by decide
theorem it_tuple_bool : isT "tuple" "bool" = false := by decide
theorem it_tuple_str : isT "tuple" "str" = false := by decide
theorem it_tuple_int : isT "tuple" "int" = false := by decide
theorem it_tuple_tuple : isT "tuple" "tuple" = true := by decide
theorem it_tuple_list : isT "tuple" "list" = false := by decide
theorem it_tuple_dict : isT "tuple" "dict" = false := by decide
theorem it_list_bool : isT "list" "bool" = false := by decide
theorem it_list_str : isT "list" "str" = false := by decide
theorem it_list_int : isT "list" "int" = false := by decide
theorem it_list_tuple : isT "list" "tuple" = false := by decide
theorem it_list_list : isT "list" "list" = true := by decide
theorem it_list_dict : isT "list" "dict" = false := by decide
theorem it_dict_bool : isT "dict" "bool" = false := by decide
theorem it_dict_str : isT "dict" "str" = false := by decide
theorem it_dict_int : isT "dict" "int" = false := by decide
theorem it_dict_tuple : isT "dict" "tuple" = false := by decide
theorem it_dict_list : isT "dict" "list" = false := by decide
theorem it_dict_dict : isT "dict" "dict" = true := by decide
/-! written texts -/
theorem ofS_inj {a b : String} : (Str.ofString a = Str.ofString b) = (a = b) := by
  refine propext ⟨fun h => ?_, fun h => by rw [h]⟩
  rw [Str.ofString_eq_toList, Str.ofString_eq_toList] at h
  injection h with h
  have h2 : a.toList.map Char.toNat = b.toList.map Char.toNat := by
    have := congrArg Array.toList h
    simpa using this
  refine String.toList_inj.mp ((List.map_inj_right (fun x y e => ?_)).mp h2)
  exact Char.ext (UInt32.toNat_inj.mp e)
theorem dat_ofS {a : String} : D.dat (.str (Str.ofString a)) = true := by
  simp only [D.dat, PyData.canLay0]
  unfold PyData.strOk
  rw [Str.ofString_eq_toList, List.all_toArray, List.all_eq_true]
  intro x hx
  obtain ⟨c, _, rfl⟩ := List.mem_map.mp hx
  have h2 : c.toNat = c.val.toNat := rfl
  refine decide_eq_true ?_
  rw [h2]
  rcases c.valid with h | h
  · omega
  · omega
/-! a short list of the store, turn by turn -/
theorem for_lst {l k : Nat} {t : Tg} {b : MSt} {ρ : Rho} {S : Sto} : kFor (.ok ⟨lstGet l, k⟩ S) t b ρ = forGo ⟨lstGet l, k⟩ t b k 0 ρ S := rfl
def kG4 (r : SR) (l k : Nat) (t : Tg) (b : MSt) (n i : Nat) : SR := match r with
  | .nx ρ' S' => forGo ⟨lstGet l, k⟩ t b n (i + 1) ρ' S'
  | .ct ρ' S' => forGo ⟨lstGet l, k⟩ t b n (i + 1) ρ' S'
  | .bk ρ' S' => .nx ρ' S'
  | r => r
def kG3 (r : SR) (l k : Nat) (t : Tg) (b : MSt) (n i : Nat) : SR := match r with
  | .nx ρ S => kG4 (b ρ S) l k t b n i
  | _ => .stuck
def kG2 (o : Option D) (l k : Nat) (t : Tg) (b : MSt) (n i : Nat) (ρ : Rho) (S : Sto) : SR := match o with
  | none => .nx ρ S
  | some x => kG3 (sTgO (tgM t x ρ S) S) l k t b n i
def kG1 (o : Option (List D)) (l k : Nat) (t : Tg) (b : MSt) (n i : Nat) (ρ : Rho) (S : Sto) : SR := match o with
  | none => .stuck
  | some xs => kG2 xs[i]? l k t b n i ρ S
theorem forG_r {l k : Nat} {t : Tg} {b : MSt} {n i : Nat} {ρ : Rho} {S : Sto} : forGo ⟨lstGet l, k⟩ t b (n + 1) i ρ S = kG1 (kLst S[l]?) l k t b n i ρ S := by
  unfold forGo
  dsimp only [lstGet]
  cases S[l]? with
  | none => rfl
  | some o =>
    cases o with
    | lst xs =>
      dsimp only [kLst, kG1]
      cases xs[i]? with
      | none => rfl
      | some x =>
        dsimp only [kG2]
        cases tgM t x ρ S with
        | none => rfl
        | some ρ1 =>
          rw [sTgO_some]
          (dsimp only [kG3, kG4]) <;> (cases b ρ1 S <;> rfl)
    | _ => rfl
theorem kG1_ok {l k : Nat} {t : Tg} {b : MSt} {n i : Nat} {ρ : Rho} {S : Sto} {xs : List D} : kG1 (some xs) l k t b n i ρ S = kG2 xs[i]? l k t b n i ρ S := rfl
theorem kG2_none {l k : Nat} {t : Tg} {b : MSt} {n i : Nat} {ρ : Rho} {S : Sto} : kG2 none l k t b n i ρ S = .nx ρ S := rfl
theorem kG2_some {l k : Nat} {t : Tg} {b : MSt} {n i : Nat} {ρ : Rho} {S : Sto} {x : D} : kG2 (some x) l k t b n i ρ S = kG3 (sTgO (tgM t x ρ S) S) l k t b n i := rfl
theorem kG3_nx {l k : Nat} {t : Tg} {b : MSt} {n i : Nat} {ρ : Rho} {S : Sto} : kG3 (.nx ρ S) l k t b n i = kG4 (b ρ S) l k t b n i := rfl
theorem kG4_nx {l k : Nat} {t : Tg} {b : MSt} {n i : Nat} {ρ : Rho} {S : Sto} : kG4 (.nx ρ S) l k t b n i = forGo ⟨lstGet l, k⟩ t b n (i + 1) ρ S := rfl
theorem kG4_ct {l k : Nat} {t : Tg} {b : MSt} {n i : Nat} {ρ : Rho} {S : Sto} : kG4 (.ct ρ S) l k t b n i = forGo ⟨lstGet l, k⟩ t b n (i + 1) ρ S := rfl
theorem kG4_bk {l k : Nat} {t : Tg} {b : MSt} {n i : Nat} {ρ : Rho} {S : Sto} : kG4 (.bk ρ S) l k t b n i = .nx ρ S := rfl
theorem kG4_rt {l k : Nat} {t : Tg} {b : MSt} {n i : Nat} {d : D} {S : Sto} : kG4 (.rt d S) l k t b n i = .rt d S := rfl
theorem isoF_hit {c : Cl} {b : Bool} {tab : List (Cl × Bool)} {S : Sto} : isoF ((c, b) :: tab) c S = .ok (.bl b) S := by
  unfold isoF; simp
theorem isoF_miss {c c' : Cl} {b : Bool} {tab : List (Cl × Bool)} {S : Sto} (h : c' ≠ c) : isoF ((c', b) :: tab) c S = isoF tab c S := by
  unfold isoF; rw [List.find?_cons_of_neg (by simpa using h)]
/-! stores that are written out -/
def cldN (n : Nat) : Sto → Sto → Prop
  | [], _ => True
  | a :: as, b :: bs => (b = a ∨ b.low n = true) ∧ cldN n as bs
  | _ :: _, [] => False
theorem cldN_ok {n : Nat} : ∀ {S S' : Sto}, cldN n S S' → S.length ≤ S'.length ∧ ∀ i, i < S.length → S'[i]? = S[i]? ∨ ∃ o, S'[i]? = some o ∧ o.low n = true
  | [], _, _ => ⟨Nat.zero_le _, fun i h => absurd h (Nat.not_lt_zero i)⟩
  | a :: as, b :: bs, h => by
    obtain ⟨h1, h2⟩ := cldN_ok h.2
    refine ⟨by simp; exact h1, fun i hi => ?_⟩
    cases i with
    | zero =>
      rcases h.1 with e | e
      · exact .inl (by rw [e]; rfl)
      · exact .inr ⟨b, rfl, e⟩
    | succ i =>
      rw [List.getElem?_cons_succ, List.getElem?_cons_succ]
      exact h2 i (by simpa using hi)
theorem Cld.of {S S' : Sto} (h : cldN S.length S S') : Cld S S' := cldN_ok h
theorem cldN_nil {n : Nat} {S : Sto} : cldN n [] S = True := rfl
theorem cldN_same {n : Nat} {a : O} {S T : Sto} : cldN n (a :: S) (a :: T) = cldN n S T := propext ⟨fun h => h.2, fun h => ⟨.inl rfl, h⟩⟩
theorem cldN_low {n : Nat} {a b : O} {S T : Sto} (h : b.low n = true) : cldN n (a :: S) (b :: T) = cldN n S T := propext ⟨fun h => h.2, fun h' => ⟨.inr h, h'⟩⟩
theorem cld_app' {S T : Sto} : Cld S (S ++ T) = True := eq_true cld_app
theorem cld_self' {S : Sto} : Cld S S = True := eq_true cld_self
theorem cld_nil {S : Sto} : Cld [] S = True := eq_true ⟨Nat.zero_le _, fun i h => absurd h (Nat.not_lt_zero i)⟩
/-- one object is written, the store grows -/
theorem cld_set {S T : Sto} {l : Nat} {o : O} (h : o.low S.length = true) : Cld S (S.set l o ++ T) = True := eq_true ⟨by simp, fun i hi => by
  rw [List.getElem?_append_left (by simpa using hi)]
  by_cases e : l = i
  · subst e
    exact .inr ⟨o, by rw [List.getElem?_set_self hi], h⟩
  · exact .inl (List.getElem?_set_ne e)⟩
theorem cld_set0 {S : Sto} {l : Nat} {o : O} (h : o.low S.length = true) : Cld S (S.set l o) = True := by
  have := cld_set (T := []) (l := l) h
  rw [List.append_nil] at this
  exact this
theorem low_lst {n : Nat} {xs : List D} (h : pureAll xs = true) : O.low n (.lst xs) = true := pureAll_low h
theorem low_dct {n : Nat} {fz : Bool} {kvs : List (Key × D)} (h : pureAll (kvs.map (·.2)) = true) : O.low n (.dct fz kvs) = true := pureAll_low h
theorem low_ins {n : Nat} {c : Cl} {fs : List (Fl × D)} : O.low n (.ins c fs) = lowAll n (fs.map (·.2)) := rfl
theorem lowAll_nil {n : Nat} : lowAll n [] = true := rfl
theorem lowAll_cons {n : Nat} {x : D} {xs : List D} : lowAll n (x :: xs) = (x.low n && lowAll n xs) := by simp only [lowAll]
theorem low_loc {n l : Nat} : D.low n (.loc l) = decide (l < n) := by simp only [D.low]
theorem low_pure {n : Nat} {d : D} (h : d.pureB = true) : d.low n = true := pure_low h
theorem cld_lit {a : O} {S S' : Sto} : Cld (a :: S) S' = Cld (a :: S) S' := rfl
def kKp (o : Option O) : Option O := match o with
  | some (.lst xs) => if pureAll xs = true then some (.lst xs) else none
  | some (.dct false kvs) => if pureAll (kvs.map (·.2)) = true then some (.dct false kvs) else none
  | _ => none
theorem r_keep {S : Sto} {n l : Nat} (h : n ≤ l) : keepO S n (.loc l) = kKp S[l]? := by
  unfold keepO
  dsimp only
  rw [if_neg (by omega)]
  rfl
theorem kKp_l {xs : List D} (h : pureAll xs = true) : kKp (some (.lst xs)) = some (.lst xs) := if_pos h
theorem kKp_d {kvs : List (Key × D)} (h : pureAll (kvs.map (·.2)) = true) : kKp (some (.dct false kvs)) = some (.dct false kvs) := if_pos h
theorem lstO_app {S T : Sto} {d : D} {xs : List D} (h : lstO S d = some xs) : lstO (S ++ T) d = some xs := by
  cases d with
  | loc l =>
    rw [r_lstO] at h ⊢
    cases e : S[l]? with
    | none => rw [e] at h; cases h
    | some o => rw [get_app e, ← e]; exact h
  | _ => exact h
theorem items_app {S T : Sto} {d : D} {xs : List D} (h : items S d = some xs) : items (S ++ T) d = some xs := by
  cases d with
  | loc l => exact lstO_app (d := .loc l) h
  | _ => exact h
def kExt (o : Option O) (l : Nat) (ys : Option (List D)) (S : Sto) : Res D := match o with
  | some (.lst xs) => extO l xs ys S
  | _ => .stuck
theorem r_lExt {l : Nat} {d : D} {S : Sto} : lExtend (.loc l) [d] S = kExt S[l]? l (lsmO S d) S := by unfold lExtend kExt; rfl
theorem kExt_ok {l : Nat} {xs : List D} {ys : Option (List D)} {S : Sto} : kExt (some (.lst xs)) l ys S = extO l xs ys S := rfl
theorem lExt_ok {l : Nat} {xs ys : List D} {S : Sto} (h : xs.length + ys.length ≤ sizeLine) : extO l xs (some ys) S = .ok .non (S.set l (.lst (xs ++ ys))) := if_pos h
end MP

set_option Elab.async false
set_option linter.all false
set_option maxRecDepth 100000
set_option maxHeartbeats 4000000
namespace MP
open PySem L2
section
variable {X : Cx} {G : Ga} {W : WX} {k : Nat}
/-! ### d.pop(k), the key is there -/
def dPop (o i : D) (S : Sto) : Res D := match o, keyD i with
  | .loc l, some k => match S[l]? with
    | some (.dct false kvs) => match valD kvs k with
      | some x => .ok x (S.set l (.dct false (dropD kvs k)))
      | none => .stuck
    | _ => .stuck
  | _, _ => .stuck
def mDPop (mo mi : MEx) : MEx := fun ρ S => (mo ρ S).bind fun o S1 => if (dctO S1 o).isSome = true then (mi ρ S1).bind fun i S2 => dPop o i S2 else .stuck
theorem d_dpop {o e : Expr} {mo mi : MEx} {apos cpos : Pos} (ho : PE X o (wpE X.K G W mo)) (he : PE X e (wpE X.K G W mi)) (m : M1 X o "pop" apos e cpos := by exact ⟨rfl, rfl, rfl, rfl⟩) :
    PE X (.Call (.Attribute o "pop" apos) [e] [] cpos) (wpE X.K G W (mDPop mo mi)) := by
  refine pe_conv (pe_dpop1 ho he m) ?_
  rintro σ H Q ⟨φ, ρ, S, em, rs, h⟩
  refine ⟨φ, ρ, S, em, rs, h.bind fun x S1 φ1 v1 H1 x1 em1 r1 h1 => ?_⟩
  split at h1
  · rename_i hd
    obtain ⟨kvs, es⟩ := Option.isSome_iff_exists.mp hd
    obtain ⟨a, vs, rfl, rd, rk⟩ := dct_ok em1 r1 es
    refine ⟨a, rfl, .inl ⟨_, rd⟩, φ1, ρ, S1, em1, rs.ext x1, h1.bind fun y S2 φ2 v2 H2 x2 em2 r2 h2 => ?_⟩
    have r1' := RV.ext x2 r1
    unfold dPop at h2
    split at h2
    · rename_i l k hk
      split at h2
      · rename_i kvs2 es2
        split at h2
        · rename_i z ez
          obtain ⟨a', hr, ha, ro⟩ := em2.at_loc es2 r1'
          cases hr
          cases ro with
          | dct e1 rk2 =>
            rename_i vs2
            obtain ⟨w, ew, rw'⟩ := (rk2.val k).1 z ez
            have n1 : ∀ xs, HO.dK vs2 ≠ .tup xs := fun _ z => nomatch z
            have n2 : ∀ ob w, HO.dK vs2 ≠ .frz ob w := fun _ _ z => nomatch z
            have xa : Ext φ2 H2 φ2 (upd H2 a (.dK (dropK vs2 k))) := .at ha e1 n1 n2
            have em3 := em2.set (o := .dct false (dropD kvs2 k)) (ho := .dK (dropK vs2 k)) es2 ha e1 n1 n2 (.dct upd_same ((rk2.drop k).ext xa))
            exact ⟨vs2, k, w, e1, keyD_ok r2 hk, ew, h2 φ2 w _ xa em3 (RV.ext xa rw')⟩
        · exact h2.elim
      · exact h2.elim
    · exact h2.elim
  · exact h1.elim
/-! ### d == {}, d != {} -/
def dctU (S : Sto) (d : D) : Option (List (Key × D)) := match d with
  | .vd ks xs => some (ks.zip xs)
  | .loc l => match S[l]? with
    | some (.dct false kvs) => some kvs
    | _ => none
  | _ => none
theorem dctU_ok {K : PySem.W.Frag} {φ : List Addr} {S : Sto} {H : Hp} (em : Emb K G φ S H) {d : D} {v : V} {kvs : List (Key × D)} (r : RV K G H φ d v) (h : dctU S d = some kvs) : ∃ p vs, v = .ref p ∧ H p = some (.dK vs) ∧ RKs K G H φ id kvs vs := by
  unfold dctU at h
  split at h
  · cases h
    cases r with
    | vd n q e s p => exact ⟨_, _, rfl, q, RKs.zip (by rw [e, List.map_id]) s⟩
  · split at h
    · rename_i ys e
      cases h
      obtain ⟨a, rfl, _, ro⟩ := em.at_loc e r
      cases ro with
      | dct e1 rk => exact ⟨_, _, rfl, e1, rk⟩
    · cases h
  · cases h
def rDE (neg : Bool) : R2 := fun x y H Q => ∃ a b ks ls, x = .ref a ∧ y = .ref b ∧ H a = some (.dK ks) ∧ H b = some (.dK ls) ∧ (ks = [] ∨ ks.length ≠ ls.length) ∧ Q (.bl (if neg = true then !decide (ks.length = ls.length) else decide (ks.length = ls.length))) H
theorem op_deq (d : DX X G W k) : OpR X (compareOp .Eq) (rDE false) := by
  intro pins s σ H x y v u Q I rx ry h
  obtain ⟨a, b, ks, ls, rfl, rfl, ea, eb, hc, q⟩ := h
  obtain rfl : v = Value.ref a := rx
  obtain rfl : u = Value.ref b := ry
  obtain ⟨_, ya, va, ra, da⟩ := (show ObjOk X.prog X.w H s.heap a (.dK ks) from I.hok a _ ea)
  obtain ⟨_, yb, vb, rb, db⟩ := (show ObjOk X.prog X.w H s.heap b (.dK ls) from I.hok b _ eb)
  have la : ks.length = va.length := ra.length
  have lb : ls.length = vb.length := rb.length
  refine PySem.W.keq_eq (knd := mixKind X.prog X.w) (r := true) ya yb da db (by have := d.hr.units; omega) (fun e => ?_) (fin_bl I q (by rw [la, lb]; simp; rfl))
  rcases hc with z | z
  · subst z
    exact hits_all rb ra (fun p hp => absurd hp (List.not_mem_nil))
  · exact absurd (by omega) z
theorem op_dne (d : DX X G W k) : OpR X (compareOp .NotEq) (rDE true) := by
  intro pins s σ H x y v u Q I rx ry h
  obtain ⟨a, b, ks, ls, rfl, rfl, ea, eb, hc, q⟩ := h
  obtain rfl : v = Value.ref a := rx
  obtain rfl : u = Value.ref b := ry
  obtain ⟨_, ya, va, ra, da⟩ := (show ObjOk X.prog X.w H s.heap a (.dK ks) from I.hok a _ ea)
  obtain ⟨_, yb, vb, rb, db⟩ := (show ObjOk X.prog X.w H s.heap b (.dK ls) from I.hok b _ eb)
  have la : ks.length = va.length := ra.length
  have lb : ls.length = vb.length := rb.length
  refine PySem.W.keq_ne (knd := mixKind X.prog X.w) (r := true) ya yb da db (by have := d.hr.units; omega) (fun e => ?_) (fin_bl I q (by rw [la, lb]; simp; rfl))
  rcases hc with z | z
  · subst z
    exact hits_all rb ra (fun p hp => absurd hp (List.not_mem_nil))
  · exact absurd (by omega) z
def deO (neg : Bool) (a b : Option (List (Key × D))) (S : Sto) : Res D := match a, b with
  | some ks, some ls => if ks = [] ∨ ks.length ≠ ls.length then .ok (.bl (if neg = true then !decide (ks.length = ls.length) else decide (ks.length = ls.length))) S else .stuck
  | _, _ => .stuck
def dEqE (neg : Bool) (x y : D) (S : Sto) : Res D := deO neg (dctU S x) (dctU S y) S
theorem s_de {K : PySem.W.Frag} {neg : Bool} : OpS K G W (dEqE neg) (rDE neg) := by
  intro φ S σ H d1 d2 v1 v2 Q em r1 r2 h
  unfold dEqE deO at h
  split at h
  · rename_i ks ls e1 e2
    split at h
    · rename_i hc
      obtain ⟨p, vs, rfl, hp, rk⟩ := dctU_ok em r1 e1
      obtain ⟨q, us, rfl, hq, rk2⟩ := dctU_ok em r2 e2
      have la := rk.length
      have lb := rk2.length
      refine ⟨p, q, vs, us, rfl, rfl, hp, hq, ?_, by rw [← la, ← lb]; exact outR.ok (R := rE K G) h em .bl⟩
      rcases hc with z | z
      · left
        subst z
        exact List.length_eq_zero_iff.mp la.symm
      · right; omega
    · exact h.elim
  · exact h.elim
/-! ### powers of wide numbers -/
def CPowW (i j : Int) : Prop := 0 ≤ j ∧ (Builtin.Int.intBits i : Int) * j ≤ 2 ^ 27
theorem op_powW : OpR X (binaryOp .Pow) (rI CPowW fun i j => .int (i ^ j.toNat)) := opI fun _ _ _ _ _ _ _ hc q => PyProof.Rows.pow_int hc.1 hc.2 q
def powWI (i j : Int) : Option Int := if 0 ≤ j ∧ (Builtin.Int.intBits i : Int) * j ≤ 2 ^ 27 then some (i ^ j.toNat) else none
theorem s_powW {K : PySem.W.Frag} : OpS K G W (intOp powWI) (rI CPowW fun i j => .int (i ^ j.toNat)) := s_int fun _ _ _ e => by
  unfold powWI at e
  split at e
  · rename_i h
    exact ⟨h, (Option.some.inj e).symm⟩
  · cases e
end
theorem powW_int {i j : Int} {S : Sto} (h : 0 ≤ j ∧ (Builtin.Int.intBits i : Int) * j ≤ 2 ^ 27) : intOp powWI (.int i) (.int j) S = .ok (.int (i ^ j.toNat)) S := by
  unfold intOp powWI; simp only [if_pos h]
/-! ### how they step -/
def kDPop1 (r : Res D) (mi : MEx) (ρ : Rho) : Res D := r.bind fun o S1 => if (dctO S1 o).isSome = true then (mi ρ S1).bind fun i S2 => dPop o i S2 else .stuck
def kDPop2 (o : D) (r : Res D) : Res D := r.bind fun i S2 => dPop o i S2
def kDPop3 (a : Option O) (k : Key) (l : Nat) (S : Sto) : Res D := match a with
  | some (.dct false kvs) => (match valD kvs k with
      | some x => .ok x (S.set l (.dct false (dropD kvs k)))
      | none => .stuck)
  | _ => .stuck
theorem r_dpop {mo mi : MEx} {ρ : Rho} {S : Sto} : mDPop mo mi ρ S = kDPop1 (mo ρ S) mi ρ := rfl
theorem kDPop1_ok {mi : MEx} {ρ : Rho} {S : Sto} {o : D} (h : (dctO S o).isSome = true) : kDPop1 (.ok o S) mi ρ = kDPop2 o (mi ρ S) := if_pos h
theorem kDPop2_i {l : Nat} {i : Int} {S : Sto} : kDPop2 (.loc l) (.ok (.int i) S) = kDPop3 S[l]? (.inl i) l S := by
  (show dPop (.loc l) (.int i) S = _; simp only [dPop, keyD, kDPop3]) <;> (generalize S[l]? = o; rcases o with _ | _ | ⟨_ | _, _⟩ | _ <;> rfl)
theorem kDPop3_ok {kvs : List (Key × D)} {k : Key} {x : D} {l : Nat} {S : Sto} (h : valD kvs k = some x) : kDPop3 (some (.dct false kvs)) k l S = .ok x (S.set l (.dct false (dropD kvs k))) := by
  unfold kDPop3
  simp only [h]
def kDU (o : Option O) : Option (List (Key × D)) := match o with
  | some (.dct false kvs) => some kvs
  | _ => none
theorem r_dctU {l : Nat} {S : Sto} : dctU S (.loc l) = kDU S[l]? := by
  (unfold dctU kDU; dsimp only) <;> (generalize S[l]? = o; rcases o with _ | _ | ⟨_ | _, _⟩ | _ <;> rfl)
theorem dctU_vd {ks : List Key} {xs : List D} {S : Sto} : dctU S (.vd ks xs) = some (ks.zip xs) := rfl
theorem kDU_ok {kvs : List (Key × D)} : kDU (some (.dct false kvs)) = some kvs := rfl
theorem r_de {neg : Bool} {x y : D} {S : Sto} : dEqE neg x y S = deO neg (dctU S x) (dctU S y) S := rfl
theorem deO_ok {neg : Bool} {ks : List (Key × D)} {S : Sto} : deO neg (some ks) (some []) S = .ok (.bl (if neg = true then !ks.isEmpty else ks.isEmpty)) S := by
  unfold deO
  cases ks with
  | nil => cases neg <;> rfl
  | cons a t =>
    dsimp only
    rw [if_pos (.inr (by simp))]
    cases neg <;> simp
end MP

set_option Elab.async false
set_option linter.all false
set_option maxRecDepth 100000
set_option maxHeartbeats 4000000
namespace MP
open PySem L2
section
variable {X : Cx} {G : Ga} {W : WX} {k : Nat}
/-! ### a dict is locked while an expression, a statement runs -/
def unlE (l : Nat) (r : Res D) : Res D := match r with
  | .ok d S => match S[l]? with
    | some (.dct true kvs) => .ok d (S.set l (.dct false kvs))
    | _ => .stuck
  | _ => .stuck
def mLk (mo m : MEx) : MEx := fun ρ S => match mo ρ S with
  | .ok (.loc l) _ => match S[l]? with
    | some (.dct false kvs) => unlE l (m ρ (S.set l (.dct true kvs)))
    | _ => .stuck
  | _ => .stuck
def sLk (mo : MEx) (b : MSt) : MSt := fun ρ S => match mo ρ S with
  | .ok (.loc l) _ => match S[l]? with
    | some (.dct false kvs) => unl l (b ρ (S.set l (.dct true kvs)))
    | _ => .stuck
  | _ => .stuck
theorem lock_in {K : PySem.W.Frag} {φ : List Addr} {S : Sto} {H : Hp} {l : Nat} {kvs : List (Key × D)} (em : Emb K G φ S H) (es : S[l]? = some (.dct false kvs)) :
    ∃ a vs, φ[l]? = some a ∧ H a = some (.dK vs) ∧ ∀ od, Ext φ H φ (upd H a (.frz od (.dK vs))) ∧ Emb K G φ (S.set l (.dct true kvs)) (upd H a (.frz od (.dK vs))) := by
  obtain ⟨a, ha, ro⟩ := em.addr es
  cases ro with
  | dct e1 rk =>
    rename_i vs
    have n1 : ∀ xs, HO.dK vs ≠ .tup xs := fun _ z => nomatch z
    have n2 : ∀ ob w, HO.dK vs ≠ .frz ob w := fun _ _ z => nomatch z
    refine ⟨a, vs, ha, e1, fun od => ?_⟩
    have xa : Ext φ H φ (upd H a (.frz od (.dK vs))) := .at ha e1 n1 n2
    exact ⟨xa, em.set (o := .dct true kvs) (ho := .frz od (.dK vs)) es ha e1 n1 n2 (.dctF upd_same (rk.ext xa))⟩
theorem d_lock {e : Expr} {m : MEx} (mo : MEx) (h : PE X e (wpE X.K G W m)) : PE X e (wpE X.K G W (mLk mo m)) := by
  refine pe_conv (pe_lock h) ?_
  rintro σ H Q ⟨φ, ρ, S, em, rs, h⟩
  unfold mLk at h
  split at h
  · split at h
    · rename_i l S0 e0 _ kvs es
      obtain ⟨a, vs, ha, e1, hx⟩ := lock_in em es
      refine ⟨a, .dK vs, e1, True.intro, fun od => ?_⟩
      obtain ⟨xa, em2⟩ := hx od
      refine ⟨φ, ρ, _, em2, rs.ext xa, ?_⟩
      cases q : m ρ (S.set l (.dct true kvs)) with
      | ok d' S' =>
        rw [q] at h
        simp only [unlE] at h
        split at h
        · rename_i kvs' es'
          intro φ' v' H' x' em' rv'
          have hz := x'.2.frz a od _ upd_same
          exact ⟨hz, h φ' v' _ (Ext.around ha e1 x') (em'.unlock es' (pre_get x'.1 ha) hz) (rv'.wk (wk_unlock (pre_get x'.1 ha) hz))⟩
        · exact h.elim
      | exc e S' => rw [q] at h; exact h.elim
      | stuck => rw [q] at h; exact h.elim
    · exact h.elim
  · exact h.elim
theorem s_lock {st : Stmt} {b : MSt} (mo : MEx) (h : PS X st (wpS X.K G W b)) : PS X st (wpS X.K G W (sLk mo b)) := by
  refine ps_conv (ps_lock h) ?_
  rintro D σ H ⟨φ, ρ, S, em, rs, h⟩
  unfold sLk at h
  split at h
  · split at h
    · rename_i l S0 e0 _ kvs es
      obtain ⟨a, vs, ha, e1, hx⟩ := lock_in em es
      refine ⟨a, .dK vs, e1, True.intro, fun od => ?_⟩
      obtain ⟨xa, em2⟩ := hx od
      refine ⟨φ, ρ, _, em2, rs.ext xa, ?_⟩
      cases q : b ρ (S.set l (.dct true kvs)) with
      | nx ρ' S' =>
        rw [q] at h
        simp only [unl] at h
        split at h
        · rename_i kvs' es'
          intro φ' σ' H' x' em' rs'
          have hz := x'.2.frz a od _ upd_same
          exact ⟨hz, h φ' σ' _ (Ext.around ha e1 x') (em'.unlock es' (pre_get x'.1 ha) hz) (rs'.wk (wk_unlock (pre_get x'.1 ha) hz))⟩
        · exact h.elim
      | rt d' S' =>
        rw [q] at h
        simp only [unl] at h
        split at h
        · rename_i kvs' es'
          intro φ' v' H' x' em' rv'
          have hz := x'.2.frz a od _ upd_same
          exact ⟨hz, h φ' v' _ (Ext.around ha e1 x') (em'.unlock es' (pre_get x'.1 ha) hz) (rv'.wk (wk_unlock (pre_get x'.1 ha) hz))⟩
        · exact h.elim
      | bk ρ' S' => rw [q] at h; exact h.elim
      | ct ρ' S' => rw [q] at h; exact h.elim
      | xc e ρ' S' => rw [q] at h; exact h.elim
      | stuck => rw [q] at h; exact h.elim
    · exact h.elim
  · exact h.elim
/-! ### frozen for good -/
theorem pe_frz {e : Expr} {t : TE} (h : PE X e t) : PE X e (fun σ H Q => t σ H fun v H1 => ∃ d u, v = .ref d ∧ H1 d = some u ∧ Mut (some u) ∧ ∀ od, Q v (upd H1 d (.frz od u))) := by
  refine ⟨fun pins s σ H Q I hw => thn (h.run pins s σ H _ I hw) fun v s1 ⟨x, H1, I1, r, d, u, ex, hd, mu, q⟩ => ?_⟩
  obtain ⟨od, I2⟩ := I1.lock hd mu
  exact ⟨x, _, I2, r, q od⟩
def frzD (d : D) (S : Sto) : Res D := match d with
  | .loc l => match S[l]? with
    | some (.dct false kvs) => .ok (.loc l) (S.set l (.dct true kvs))
    | _ => .stuck
  | _ => .stuck
def mFrz (m : MEx) : MEx := fun ρ S => (m ρ S).bind frzD
theorem d_frz {e : Expr} {m : MEx} (h : PE X e (wpE X.K G W m)) : PE X e (wpE X.K G W (mFrz m)) := by
  refine pe_conv (pe_frz h) ?_
  rintro σ H Q ⟨φ, ρ, S, em, rs, h⟩
  refine ⟨φ, ρ, S, em, rs, h.bind fun d S1 φ1 v H1 x1 em1 rv h1 => ?_⟩
  unfold frzD at h1
  split at h1
  · split at h1
    · rename_i l kvs es
      obtain ⟨a, vs, ha, e1, hx⟩ := lock_in em1 es
      obtain ⟨a', rfl, ha', _⟩ := em1.at_loc es rv
      have : a' = a := by rw [ha] at ha'; cases ha'; rfl
      subst this
      refine ⟨a', .dK vs, rfl, e1, True.intro, fun od => ?_⟩
      obtain ⟨xa, em2⟩ := hx od
      exact h1 φ1 _ _ xa em2 (RV.ext xa rv)
    · exact h1.elim
  · exact h1.elim
/-! ### the values, the pairs of a locked dict -/
def vaGet (l : Nat) : Nat → Sto → Option (Option D) := fun i S => match S[l]? with
  | some (.dct true kvs) => some (kvs[i]?.map (·.2))
  | _ => none
def iiGet (l : Nat) : Nat → Sto → Option (Option D) := fun i S => match S[l]? with
  | some (.dct true kvs) => some (kvs[i]?.map fun kv => .tup [keyOf kv.1, kv.2])
  | _ => none
def itV (d : D) (S : Sto) : Option MIt := match d with
  | .loc l => match S[l]? with
    | some (.dct true kvs) => some ⟨vaGet l, kvs.length + 1⟩
    | _ => none
  | _ => none
def itI (d : D) (S : Sto) : Option MIt := match d with
  | .loc l => match S[l]? with
    | some (.dct true kvs) => some ⟨iiGet l, kvs.length + 1⟩
    | _ => none
  | _ => none
def miV (m : MEx) : MIx := fun ρ S => (m ρ S).it itV
def miI (m : MEx) : MIx := fun ρ S => (m ρ S).it itI
theorem key_rv {K : PySem.W.Frag} {H : Hp} {φ : List Addr} (k : Key) : RV K G H φ (keyOf k) (kV k) := by cases k <;> constructor
theorem it_vals {K : PySem.W.Frag} {l m : Nat} {φ0 : List Addr} {H0 : Hp} {a : Addr} {o : Obj} {vs : List (Key × V)} (ha : φ0[l]? = some a) (h0 : H0 a = some (.frz o (.dK vs))) : ItOk K G ⟨vaGet l, m⟩ (Itd a o vs) φ0 H0 := by
  intro i φ S H x em
  show match vaGet l i S with | none => True | some none => _ | some (some d) => _
  have ha' := pre_get x.1 ha
  have h' := x.2.frz a o _ h0
  unfold vaGet
  cases es : S[l]? with
  | none => trivial
  | some ob =>
    cases ob with
    | lst _ => trivial
    | ins _ _ => trivial
    | dct fz kvs =>
      cases fz with
      | false => trivial
      | true =>
        have ro := em.ob l _ a es ha'
        cases ro with
        | dctF e1 rk =>
          rw [h'] at e1
          cases e1
          dsimp only
          cases ek : kvs[i]? with
          | none => exact ⟨h', by rw [← rk.length]; exact List.getElem?_eq_none_iff.mp ek⟩
          | some kv =>
            obtain ⟨k, d⟩ := kv
            obtain ⟨v, ev, rv⟩ := rk.get ek
            refine ⟨⟨h', (List.getElem?_eq_some_iff.mp ev).1⟩, ?_⟩
            rintro y H' ⟨rfl, k', e2⟩
            rw [ev] at e2
            cases e2
            exact ⟨.refl, em, rv⟩
theorem it_its {K : PySem.W.Frag} {l m : Nat} {φ0 : List Addr} {H0 : Hp} {a : Addr} {o : Obj} {vs : List (Key × V)} (ha : φ0[l]? = some a) (h0 : H0 a = some (.frz o (.dK vs))) : ItOk K G ⟨iiGet l, m⟩ (Iti a o vs) φ0 H0 := by
  intro i φ S H x em
  show match iiGet l i S with | none => True | some none => _ | some (some d) => _
  have ha' := pre_get x.1 ha
  have h' := x.2.frz a o _ h0
  unfold iiGet
  cases es : S[l]? with
  | none => trivial
  | some ob =>
    cases ob with
    | lst _ => trivial
    | ins _ _ => trivial
    | dct fz kvs =>
      cases fz with
      | false => trivial
      | true =>
        have ro := em.ob l _ a es ha'
        cases ro with
        | dctF e1 rk =>
          rw [h'] at e1
          cases e1
          dsimp only
          cases ek : kvs[i]? with
          | none => exact ⟨h', by rw [← rk.length]; exact List.getElem?_eq_none_iff.mp ek⟩
          | some kv =>
            obtain ⟨k, d⟩ := kv
            obtain ⟨v, ev, rv⟩ := rk.get ek
            refine ⟨⟨h', (List.getElem?_eq_some_iff.mp ev).1⟩, ?_⟩
            rintro y H' ⟨T, k', v', e2, rfl, hT, rfl⟩
            rw [ev] at e2
            cases e2
            exact ⟨.other hT, em.other hT, .tup (.inl (.inl upd_same)) (.cons (key_rv _) (.cons (rv.ext (.other hT)) .nil))⟩
theorem i_vals {tg e : Expr} {apos cpos : Pos} {m : MEx} (he : PE X e (wpE X.K G W m)) (hbase : attributeBase e "values" X.env (eval e X.env) = eval e X.env := by rfl) (hline : (apos.endLine == cpos.line) = true := by rfl) :
    PI X tg (.Call (.Attribute e "values" apos) [] [] cpos) (wpI X.K G W (miV m)) := by
  refine pi_conv (pi_values he hbase hline) ?_
  rintro σ H R ⟨φ, ρ, S, em, rs, h⟩
  refine ⟨φ, ρ, S, em, rs, ?_⟩
  unfold miV Res.it at h
  cases q : m ρ S with
  | stuck => rw [q] at h; exact h
  | exc e S' => rw [q] at h; exact h
  | ok d S1 =>
    rw [q] at h
    intro φ1 v H1 x1 em1 rv
    simp only [Res.bind_ok] at h
    unfold itV at h
    split at h
    · rename_i it S2 hh
      split at hh
      · rename_i it' e1
        split at e1
        · rename_i l
          split at e1
          · rename_i kvs es
            cases e1
            cases hh
            obtain ⟨a, rfl, ha, ro⟩ := em1.at_loc es rv
            cases ro with
            | dctF e2 rk => exact ⟨a, _, _, rfl, e2, h φ1 _ H1 x1 em1 (it_vals ha e2)⟩
          · cases e1
        · cases e1
      · cases hh
    · rename_i hh; split at hh <;> cases hh
    · exact h.elim
theorem i_its {elts : List Expr} {kk : Nat} {tpos : Pos} {e : Expr} {apos cpos : Pos} {m : MEx} (he : PE X e (wpE X.K G W m)) (hbase : attributeBase e "items" X.env (eval e X.env) = eval e X.env := by rfl) (hline : (apos.endLine == cpos.line) = true := by rfl) :
    PI X (.Tuple elts kk tpos) (.Call (.Attribute e "items" apos) [] [] cpos) (wpI X.K G W (miI m)) := by
  refine pi_conv (pi_items he hbase hline) ?_
  rintro σ H R ⟨φ, ρ, S, em, rs, h⟩
  refine ⟨φ, ρ, S, em, rs, ?_⟩
  unfold miI Res.it at h
  cases q : m ρ S with
  | stuck => rw [q] at h; exact h
  | exc e S' => rw [q] at h; exact h
  | ok d S1 =>
    rw [q] at h
    intro φ1 v H1 x1 em1 rv
    simp only [Res.bind_ok] at h
    unfold itI at h
    split at h
    · rename_i it S2 hh
      split at hh
      · rename_i it' e1
        split at e1
        · rename_i l
          split at e1
          · rename_i kvs es
            cases e1
            cases hh
            obtain ⟨a, rfl, ha, ro⟩ := em1.at_loc es rv
            cases ro with
            | dctF e2 rk => exact ⟨a, _, _, rfl, e2, h φ1 _ H1 x1 em1 (it_its ha e2)⟩
          · cases e1
        · cases e1
      · cases hh
    · rename_i hh; split at hh <;> cases hh
    · exact h.elim
/-! ### d.get(k), d.get(k, x), d.pop(k, x), dict(d) -/
def getO (o : Option (List (Key × D))) (k : Option Key) (z : D) (S : Sto) : Res D := match o, k with
  | some kvs, some k => .ok ((valD kvs k).getD z) S
  | _, _ => .stuck
def mDGet1 (mo mi : MEx) : MEx := fun ρ S => (mo ρ S).bind fun o S1 => if (dctO S1 o).isSome = true then (mi ρ S1).bind fun i S2 => getO (dctO S2 o) (keyD i) .non S2 else .stuck
def mDGet2 (mo mi mz : MEx) : MEx := fun ρ S => (mo ρ S).bind fun o S1 => if (dctO S1 o).isSome = true then (mi ρ S1).bind fun i S2 => (mz ρ S2).bind fun z S3 => getO (dctO S3 o) (keyD i) z S3 else .stuck
theorem RKs.get_ {K : PySem.W.Frag} {H : Hp} {φ : List Addr} {kvs : List (Key × D)} {vs : List (Key × V)} (r : RKs K G H φ id kvs vs) (k : Key) {z : D} {y : V} (rz : RV K G H φ z y) : RV K G H φ ((valD kvs k).getD z) ((valV vs k).getD y) := by
  cases e : valD kvs k with
  | none => rw [(r.val k).2 e]; exact rz
  | some d =>
    obtain ⟨v, e2, rv⟩ := (r.val k).1 d e
    rw [e2]; exact rv
theorem d_dget1 {o e : Expr} {mo mi : MEx} {apos cpos : Pos} (d : DX X G W k) (ho : PE X o (wpE X.K G W mo)) (he : PE X e (wpE X.K G W mi)) (m : M1 X o "get" apos e cpos := by exact ⟨rfl, rfl, rfl, rfl⟩) :
    PE X (.Call (.Attribute o "get" apos) [e] [] cpos) (wpE X.K G W (mDGet1 mo mi)) := by
  refine pe_conv (pe_dget1 (by have := d.hr.units; omega) ho he m) ?_
  rintro σ H Q ⟨φ, ρ, S, em, rs, h⟩
  refine ⟨φ, ρ, S, em, rs, h.bind fun x S1 φ1 v1 H1 x1 em1 r1 h1 => ?_⟩
  split at h1
  · rename_i hd
    obtain ⟨kvs, es⟩ := Option.isSome_iff_exists.mp hd
    obtain ⟨a, vs, rfl, rd, rk⟩ := dct_ok em1 r1 es
    refine ⟨a, rfl, .inl ⟨_, rd⟩, φ1, ρ, S1, em1, rs.ext x1, h1.bind fun y S2 φ2 v2 H2 x2 em2 r2 h2 => ?_⟩
    unfold getO at h2
    split at h2
    · rename_i kvs2 k es2 hk
      obtain ⟨a', vs2, hr, rd2, rk2⟩ := dct_ok em2 (RV.ext x2 r1) es2
      cases hr
      exact ⟨_, .inl ⟨vs2, k, rd2, keyD_ok r2 hk, rfl⟩, outR.ok (R := rE X.K G) h2 em2 (rk2.get_ k .non)⟩
    · exact h2.elim
  · exact h1.elim
theorem d_dget2 {o e f : Expr} {mo mi mz : MEx} {apos cpos : Pos} (d : DX X G W k) (ho : PE X o (wpE X.K G W mo)) (he : PE X e (wpE X.K G W mi)) (hf : PE X f (wpE X.K G W mz)) (m : M2 X o "get" apos e f cpos := by exact ⟨rfl, rfl, rfl, rfl⟩) :
    PE X (.Call (.Attribute o "get" apos) [e, f] [] cpos) (wpE X.K G W (mDGet2 mo mi mz)) := by
  refine pe_conv (pe_dget2 (by have := d.hr.units; omega) ho he hf m) ?_
  rintro σ H Q ⟨φ, ρ, S, em, rs, h⟩
  refine ⟨φ, ρ, S, em, rs, h.bind fun x S1 φ1 v1 H1 x1 em1 r1 h1 => ?_⟩
  split at h1
  · rename_i hd
    obtain ⟨kvs, es⟩ := Option.isSome_iff_exists.mp hd
    obtain ⟨a, vs, rfl, rd, rk⟩ := dct_ok em1 r1 es
    refine ⟨a, rfl, .inl ⟨_, rd⟩, φ1, ρ, S1, em1, rs.ext x1, h1.bind fun y S2 φ2 v2 H2 x2 em2 r2 h2 => ?_⟩
    refine ⟨φ2, ρ, S2, em2, (rs.ext x1).ext x2, h2.bind fun z S3 φ3 v3 H3 x3 em3 r3 h3 => ?_⟩
    unfold getO at h3
    split at h3
    · rename_i kvs2 k es2 hk
      obtain ⟨a', vs2, hr, rd2, rk2⟩ := dct_ok em3 (RV.ext x3 (RV.ext x2 r1)) es2
      cases hr
      exact ⟨_, .inl ⟨vs2, k, rd2, keyD_ok (RV.ext x3 r2) hk, rfl⟩, outR.ok (R := rE X.K G) h3 em3 (rk2.get_ k r3)⟩
    · exact h3.elim
  · exact h1.elim
def dPop2 (o i z : D) (S : Sto) : Res D := match o, keyD i with
  | .loc l, some k => match S[l]? with
    | some (.dct false kvs) => match valD kvs k with
      | some x => .ok x (S.set l (.dct false (dropD kvs k)))
      | none => .ok z S
    | _ => .stuck
  | _, _ => .stuck
def mDPop2 (mo mi mz : MEx) : MEx := fun ρ S => (mo ρ S).bind fun o S1 => if (dctO S1 o).isSome = true then (mi ρ S1).bind fun i S2 => (mz ρ S2).bind fun z S3 => dPop2 o i z S3 else .stuck
theorem d_dpop2 {o e f : Expr} {mo mi mz : MEx} {apos cpos : Pos} (ho : PE X o (wpE X.K G W mo)) (he : PE X e (wpE X.K G W mi)) (hf : PE X f (wpE X.K G W mz)) (m : M2 X o "pop" apos e f cpos := by exact ⟨rfl, rfl, rfl, rfl⟩) :
    PE X (.Call (.Attribute o "pop" apos) [e, f] [] cpos) (wpE X.K G W (mDPop2 mo mi mz)) := by
  refine pe_conv (pe_dpop2 ho he hf m) ?_
  rintro σ H Q ⟨φ, ρ, S, em, rs, h⟩
  refine ⟨φ, ρ, S, em, rs, h.bind fun x S1 φ1 v1 H1 x1 em1 r1 h1 => ?_⟩
  split at h1
  · rename_i hd
    obtain ⟨kvs, es⟩ := Option.isSome_iff_exists.mp hd
    obtain ⟨a, vs, rfl, rd, rk⟩ := dct_ok em1 r1 es
    refine ⟨a, rfl, .inl ⟨_, rd⟩, φ1, ρ, S1, em1, rs.ext x1, h1.bind fun y S2 φ2 v2 H2 x2 em2 r2 h2 => ?_⟩
    refine ⟨φ2, ρ, S2, em2, (rs.ext x1).ext x2, h2.bind fun z S3 φ3 v3 H3 x3 em3 r3 h3 => ?_⟩
    have r1' := RV.ext x3 (RV.ext x2 r1)
    unfold dPop2 at h3
    split at h3
    · rename_i l k hk
      split at h3
      · rename_i kvs2 es2
        obtain ⟨a', hr, ha, ro⟩ := em3.at_loc es2 r1'
        cases hr
        cases ro with
        | dct e1 rk2 =>
          rename_i vs2
          refine ⟨vs2, k, e1, keyD_ok (RV.ext x3 r2) hk, fun w ew => ?_, fun en => ?_⟩
          · split at h3
            · rename_i z' ez
              obtain ⟨w', ew', rw'⟩ := (rk2.val k).1 z' ez
              rw [ew] at ew'
              cases ew'
              have n1 : ∀ xs, HO.dK vs2 ≠ .tup xs := fun _ z => nomatch z
              have n2 : ∀ ob w, HO.dK vs2 ≠ .frz ob w := fun _ _ z => nomatch z
              have xa : Ext φ3 H3 φ3 (upd H3 a (.dK (dropK vs2 k))) := .at ha e1 n1 n2
              have em4 := em3.set (o := .dct false (dropD kvs2 k)) (ho := .dK (dropK vs2 k)) es2 ha e1 n1 n2 (.dct upd_same ((rk2.drop k).ext xa))
              exact h3 φ3 w _ xa em4 (RV.ext xa rw')
            · rename_i ez
              rw [(rk2.val k).2 ez] at ew
              cases ew
          · split at h3
            · rename_i z' ez
              obtain ⟨w', ew', _⟩ := (rk2.val k).1 z' ez
              rw [en] at ew'
              cases ew'
            · exact outR.ok (R := rE X.K G) h3 em3 r3
      · exact h3.elim
    · exact h3.elim
  · exact h1.elim
def dictO (tr : Bool) (o : Option (List (Key × D))) (S : Sto) : Res D := match o with
  | some kvs => if tr = true then .ok (.loc S.length) (S ++ [.dct false kvs]) else if pureAll (kvs.map (·.2)) = true then .ok (.vd (kvs.map (·.1)) (kvs.map (·.2))) S else .stuck
  | none => .stuck
def cDict (tr : Bool) (ds : List D) (S : Sto) : Res D := match ds with
  | [d] => dictO tr (dctO S d) S
  | _ => .stuck
theorem s_dict {K : PySem.W.Frag} {tr : Bool} : CallS K G W (cDict tr) (fun xs H Q => ∃ (a : Addr) (kvs : List (Key × V)), xs = [.ref a] ∧ Rd H a (.dK kvs) ∧ ∀ p, H p = none → Q (.ref p) (upd H p (.dK kvs))) := by
  intro φ S σ H ds vs Q em r h
  unfold cDict at h
  split at h
  · rename_i d
    unfold dictO at h
    split at h
    · rename_i kvs es
      cases r with
      | cons r1 r2 =>
        cases r2
        obtain ⟨a, us, rfl, rd, rk⟩ := dct_ok em r1 es
        refine ⟨a, us, rfl, rd, fun p hp => ?_⟩
        split at h
        · refine h (φ ++ [p]) (.ref p) _ (.new hp) (em.new hp (.dct upd_same (rk.ext (.new hp)))) (.loc ?_)
          rw [← em.len]
          simp
        · split at h
          · rename_i pp
            have hnp : p ∉ φ := fun z => by
              obtain ⟨u, z⟩ := em.there z
              rw [hp] at z; cases z
            exact h φ (.ref p) _ (.other hp) (em.other hp) (.vd hnp upd_same (by have := rk.keys; simpa using this) ((rk.ext (.other hp)).vals) pp)
          · exact h.elim
    · exact h.elim
  · exact h.elim
end
end MP

set_option Elab.async false
set_option linter.all false
set_option maxRecDepth 100000
set_option maxHeartbeats 4000000
namespace MP
open PySem L2
/-! ### steps of the locks -/
section
variable {m mo mi mz : MEx} {b : MSt} {ρ : Rho} {S S' : Sto} {l : Nat} {kvs : List (Key × D)} {d x z : D}
def kSLkA (r : Res D) (b : MSt) (ρ : Rho) (S : Sto) : SR := match r with
  | .ok (.loc l) _ => match S[l]? with
    | some (.dct false kvs) => unl l (b ρ (S.set l (.dct true kvs)))
    | _ => .stuck
  | _ => .stuck
def kSLkB (o : Option O) (l : Nat) (b : MSt) (ρ : Rho) (S : Sto) : SR := match o with
  | some (.dct false kvs) => unl l (b ρ (S.set l (.dct true kvs)))
  | _ => .stuck
theorem r_slk : sLk mo b ρ S = kSLkA (mo ρ S) b ρ S := by unfold sLk kSLkA; rfl
theorem kSLkA_ok : kSLkA (.ok (.loc l) S') b ρ S = kSLkB S[l]? l b ρ S := by unfold kSLkA kSLkB; rfl
theorem kSLkB_ok : kSLkB (some (.dct false kvs)) l b ρ S = unl l (b ρ (S.set l (.dct true kvs))) := rfl
def kMLkA (r : Res D) (m : MEx) (ρ : Rho) (S : Sto) : Res D := match r with
  | .ok (.loc l) _ => match S[l]? with
    | some (.dct false kvs) => unlE l (m ρ (S.set l (.dct true kvs)))
    | _ => .stuck
  | _ => .stuck
def kMLkB (o : Option O) (l : Nat) (m : MEx) (ρ : Rho) (S : Sto) : Res D := match o with
  | some (.dct false kvs) => unlE l (m ρ (S.set l (.dct true kvs)))
  | _ => .stuck
theorem r_mlk : mLk mo m ρ S = kMLkA (mo ρ S) m ρ S := by unfold mLk kMLkA; rfl
theorem kMLkA_ok : kMLkA (.ok (.loc l) S') m ρ S = kMLkB S[l]? l m ρ S := by unfold kMLkA kMLkB; rfl
theorem kMLkB_ok : kMLkB (some (.dct false kvs)) l m ρ S = unlE l (m ρ (S.set l (.dct true kvs))) := rfl
def kUnlN (o : Option O) (l : Nat) (ρ : Rho) (S : Sto) : SR := match o with
  | some (.dct true kvs) => .nx ρ (S.set l (.dct false kvs))
  | _ => .stuck
def kUnlR (o : Option O) (l : Nat) (d : D) (S : Sto) : SR := match o with
  | some (.dct true kvs) => .rt d (S.set l (.dct false kvs))
  | _ => .stuck
def kUnlE (o : Option O) (l : Nat) (d : D) (S : Sto) : Res D := match o with
  | some (.dct true kvs) => .ok d (S.set l (.dct false kvs))
  | _ => .stuck
theorem r_unlN : unl l (.nx ρ S) = kUnlN S[l]? l ρ S := rfl
theorem r_unlR : unl l (.rt d S) = kUnlR S[l]? l d S := rfl
theorem r_unlE : unlE l (.ok d S) = kUnlE S[l]? l d S := rfl
theorem kUnlN_ok : kUnlN (some (.dct true kvs)) l ρ S = .nx ρ (S.set l (.dct false kvs)) := rfl
theorem kUnlR_ok : kUnlR (some (.dct true kvs)) l d S = .rt d (S.set l (.dct false kvs)) := rfl
theorem kUnlE_ok : kUnlE (some (.dct true kvs)) l d S = .ok d (S.set l (.dct false kvs)) := rfl
theorem r_frz : mFrz m ρ S = (m ρ S).bind frzD := rfl
def kFrz (o : Option O) (l : Nat) (S : Sto) : Res D := match o with
  | some (.dct false kvs) => .ok (.loc l) (S.set l (.dct true kvs))
  | _ => .stuck
theorem r_frzD : frzD (.loc l) S = kFrz S[l]? l S := by unfold frzD kFrz; rfl
theorem kFrz_ok : kFrz (some (.dct false kvs)) l S = .ok (.loc l) (S.set l (.dct true kvs)) := rfl
theorem r_itK : miK m ρ S = kItA (m ρ S) itK := rfl
theorem r_itV : miV m ρ S = kItA (m ρ S) itV := rfl
theorem r_itI : miI m ρ S = kItA (m ρ S) itI := rfl
def kItK (o : Option O) (g : Nat → Nat → Sto → Option (Option D)) (l : Nat) : Option MIt := match o with
  | some (.dct true kvs) => some ⟨g l, kvs.length + 1⟩
  | _ => none
theorem itK_l : itK (.loc l) S = kItK S[l]? kyGet l := by unfold itK kItK; rfl
theorem itV_l : itV (.loc l) S = kItK S[l]? vaGet l := by unfold itV kItK; rfl
theorem itI_l : itI (.loc l) S = kItK S[l]? iiGet l := by unfold itI kItK; rfl
theorem kItK_ok {g : Nat → Nat → Sto → Option (Option D)} : kItK (some (.dct true kvs)) g l = some ⟨g l, kvs.length + 1⟩ := rfl
theorem vaGet_ok {S : Sto} {l : Nat} {kvs : List (Key × D)} (h : S[l]? = some (.dct true kvs)) (i : Nat) : vaGet l i S = some ((kvs.map (·.2))[i]?) := by
  unfold vaGet; rw [h, List.getElem?_map]
theorem iiGet_ok {S : Sto} {l : Nat} {kvs : List (Key × D)} (h : S[l]? = some (.dct true kvs)) (i : Nat) : iiGet l i S = some ((kvs.map fun kv => D.tup [keyOf kv.1, kv.2])[i]?) := by
  unfold iiGet; rw [h, List.getElem?_map]
theorem for_ky {k : Nat} {t : Tg} {sb : MSt} : kFor (.ok ⟨kyGet l, k⟩ S) t sb ρ = forGo ⟨kyGet l, k⟩ t sb k 0 ρ S := rfl
theorem for_va {k : Nat} {t : Tg} {sb : MSt} : kFor (.ok ⟨vaGet l, k⟩ S) t sb ρ = forGo ⟨vaGet l, k⟩ t sb k 0 ρ S := rfl
theorem for_ii {k : Nat} {t : Tg} {sb : MSt} : kFor (.ok ⟨iiGet l, k⟩ S) t sb ρ = forGo ⟨iiGet l, k⟩ t sb k 0 ρ S := rfl
/-! steps of get, pop, dict -/
def kG1A (r : Res D) (mi : MEx) (ρ : Rho) : Res D := r.bind fun o S1 => if (dctO S1 o).isSome = true then (mi ρ S1).bind fun i S2 => getO (dctO S2 o) (keyD i) .non S2 else .stuck
def kG1B (o : D) (r : Res D) : Res D := r.bind fun i S2 => getO (dctO S2 o) (keyD i) .non S2
theorem r_dget1 : mDGet1 mo mi ρ S = kG1A (mo ρ S) mi ρ := rfl
theorem kG1A_ok {o : D} (h : (dctO S o).isSome = true) : kG1A (.ok o S) mi ρ = kG1B o (mi ρ S) := if_pos h
theorem kG1B_ok {o i : D} : kG1B o (.ok i S) = getO (dctO S o) (keyD i) .non S := rfl
theorem getO_ok {k : Key} : getO (some kvs) (some k) z S = .ok ((valD kvs k).getD z) S := rfl
def kG2A (r : Res D) (mi mz : MEx) (ρ : Rho) : Res D := r.bind fun o S1 => if (dctO S1 o).isSome = true then (mi ρ S1).bind fun i S2 => (mz ρ S2).bind fun z S3 => getO (dctO S3 o) (keyD i) z S3 else .stuck
def kG2B (o : D) (r : Res D) (mz : MEx) (ρ : Rho) : Res D := r.bind fun i S2 => (mz ρ S2).bind fun z S3 => getO (dctO S3 o) (keyD i) z S3
def kG2C (o i : D) (r : Res D) : Res D := r.bind fun z S3 => getO (dctO S3 o) (keyD i) z S3
theorem r_dget2 : mDGet2 mo mi mz ρ S = kG2A (mo ρ S) mi mz ρ := rfl
theorem kG2A_ok {o : D} (h : (dctO S o).isSome = true) : kG2A (.ok o S) mi mz ρ = kG2B o (mi ρ S) mz ρ := if_pos h
theorem kG2B_ok {o i : D} : kG2B o (.ok i S) mz ρ = kG2C o i (mz ρ S) := rfl
theorem kG2C_ok {o i : D} : kG2C o i (.ok z S) = getO (dctO S o) (keyD i) z S := rfl
def kP2A (r : Res D) (mi mz : MEx) (ρ : Rho) : Res D := r.bind fun o S1 => if (dctO S1 o).isSome = true then (mi ρ S1).bind fun i S2 => (mz ρ S2).bind fun z S3 => dPop2 o i z S3 else .stuck
def kP2B (o : D) (r : Res D) (mz : MEx) (ρ : Rho) : Res D := r.bind fun i S2 => (mz ρ S2).bind fun z S3 => dPop2 o i z S3
def kP2C (o i : D) (r : Res D) : Res D := r.bind fun z S3 => dPop2 o i z S3
def popF (o : Option O) (k : Option Key) (l : Nat) (z : D) (S : Sto) : Res D := match o, k with
  | some (.dct false kvs), some k => .ok ((valD kvs k).getD z) (S.set l (.dct false (dropD kvs k)))
  | _, _ => .stuck
theorem drop_none {k : Key} (h : valD kvs k = none) : dropD kvs k = kvs := by
  unfold dropD
  refine List.filter_eq_self.mpr fun kv hkv => decide_eq_true fun z => ?_
  unfold valD at h
  rw [Option.map_eq_none_iff, List.find?_eq_none] at h
  exact h kv hkv (decide_eq_true z)
theorem r_dpop2 : mDPop2 mo mi mz ρ S = kP2A (mo ρ S) mi mz ρ := rfl
theorem kP2A_ok {o : D} (h : (dctO S o).isSome = true) : kP2A (.ok o S) mi mz ρ = kP2B o (mi ρ S) mz ρ := if_pos h
theorem kP2B_ok {o i : D} : kP2B o (.ok i S) mz ρ = kP2C o i (mz ρ S) := rfl
theorem kP2C_ok {i : D} : kP2C (.loc l) i (.ok z S) = popF S[l]? (keyD i) l z S := by
  show dPop2 (.loc l) i z S = _
  unfold dPop2 popF
  cases hk : keyD i with
  | none => cases hs : S[l]? with
    | none => rfl
    | some o => cases o with
      | dct fz kvs => cases fz <;> rfl
      | _ => rfl
  | some k => cases hs : S[l]? with
    | none => simp only [hs]
    | some o => cases o with
      | dct fz kvs =>
        cases fz with
        | true => simp only [hs]
        | false =>
          simp only [hs]
          cases hv : valD kvs k with
          | some x => simp only [Option.getD_some]
          | none =>
            rw [drop_none hv]
            obtain ⟨h1, h2⟩ := List.getElem?_eq_some_iff.mp hs
            rw [← h2, List.set_getElem_self]
            simp only [Option.getD_none]
      | _ => simp only [hs]
theorem popF_ok {k : Key} : popF (some (.dct false kvs)) (some k) l z S = .ok ((valD kvs k).getD z) (S.set l (.dct false (dropD kvs k))) := rfl
theorem r_cDict {tr : Bool} : cDict tr [d] S = dictO tr (dctO S d) S := rfl
theorem dictO_t : dictO true (some kvs) S = .ok (.loc S.length) (S ++ [.dct false kvs]) := rfl
theorem dictO_f (h : pureAll (kvs.map (·.2)) = true) : dictO false (some kvs) S = .ok (.vd (kvs.map (·.1)) (kvs.map (·.2))) S := by
  unfold dictO
  dsimp only
  rw [if_neg (by decide), if_pos h]
end
/-! ### loops by one invariant -/
/-- the body goes on; it may not end the loop otherwise -/
def stepN (P : Rho → Sto → Prop) : SR → Prop
  | .nx ρ S => P ρ S
  | .ct ρ S => P ρ S
  | _ => False
theorem stepN_nx {P : Rho → Sto → Prop} {ρ : Rho} {S : Sto} : stepN P (.nx ρ S) = P ρ S := rfl
theorem stepN_ct {P : Rho → Sto → Prop} {ρ : Rho} {S : Sto} : stepN P (.ct ρ S) = P ρ S := rfl
/-- it may end the def, or break -/
def stepR (P : Rho → Sto → Prop) (R : D → Sto → Prop) : SR → Prop
  | .nx ρ S => P ρ S
  | .ct ρ S => P ρ S
  | .rt d S => R d S
  | _ => False
theorem stepR_nx {P : Rho → Sto → Prop} {R : D → Sto → Prop} {ρ : Rho} {S : Sto} : stepR P R (.nx ρ S) = P ρ S := rfl
theorem stepR_ct {P : Rho → Sto → Prop} {R : D → Sto → Prop} {ρ : Rho} {S : Sto} : stepR P R (.ct ρ S) = P ρ S := rfl
theorem stepR_rt {P : Rho → Sto → Prop} {R : D → Sto → Prop} {d : D} {S : Sto} : stepR P R (.rt d S) = R d S := rfl
theorem forX_nx {t : Tg} {b : MSt} {ρ0 : Rho} {S0 : Sto} {r : SR} {xs : List D} (hr : forX t b xs ρ0 S0 = r) (P : Nat → Rho → Sto → Prop) (h0 : P 0 ρ0 S0)
    (hs : ∀ i x ρ S, xs[i]? = some x → P i ρ S → ∃ ρ1, tgM t x ρ S = some ρ1 ∧ stepN (P (i + 1)) (b ρ1 S)) : ∃ ρ S, r = .nx ρ S ∧ P xs.length ρ S := by
  refine forXI hr P (fun r => ∃ ρ S, r = .nx ρ S ∧ P xs.length ρ S) h0 (fun i x ρ S e p => ?_) fun ρ S p => ⟨ρ, S, rfl, p⟩
  obtain ⟨ρ1, e1, q⟩ := hs i x ρ S e p
  refine ⟨ρ1, e1, ?_⟩
  cases hb : b ρ1 S <;> rw [hb] at q <;> first | exact q | exact q.elim
theorem forX_rt {t : Tg} {b : MSt} {ρ0 : Rho} {S0 : Sto} {r : SR} {xs : List D} (hr : forX t b xs ρ0 S0 = r) (P : Nat → Rho → Sto → Prop) (R : D → Sto → Prop) (h0 : P 0 ρ0 S0)
    (hs : ∀ i x ρ S, xs[i]? = some x → P i ρ S → ∃ ρ1, tgM t x ρ S = some ρ1 ∧ stepR (P (i + 1)) R (b ρ1 S)) : (∃ ρ S, r = .nx ρ S ∧ P xs.length ρ S) ∨ ∃ d S, r = .rt d S ∧ R d S := by
  refine forXI hr P (fun r => (∃ ρ S, r = .nx ρ S ∧ P xs.length ρ S) ∨ ∃ d S, r = .rt d S ∧ R d S) h0 (fun i x ρ S e p => ?_) fun ρ S p => .inl ⟨ρ, S, rfl, p⟩
  obtain ⟨ρ1, e1, q⟩ := hs i x ρ S e p
  refine ⟨ρ1, e1, ?_⟩
  cases hb : b ρ1 S <;> rw [hb] at q <;> first | exact q | exact q.elim | exact .inr ⟨_, _, rfl, q⟩
/-- over a range, to a name -/
theorem forR_nx {k : Nat} {b : MSt} {ρ0 : Rho} {S0 : Sto} {r : SR} {lo : Int} {n : Nat} (hr : forX (.nm k) b (rngL lo n) ρ0 S0 = r) (P : Nat → Rho → Sto → Prop) (h0 : P 0 ρ0 S0)
    (hs : ∀ i ρ S, i < n → P i ρ S → stepN (P (i + 1)) (b (ρ.set k (some (.int (lo + i)))) S)) : ∃ ρ S, r = .nx ρ S ∧ P n ρ S := by
  have := forX_nx (t := .nm k) hr P h0 fun i x ρ S e p => by
    have hi : i < n := by
      have := (List.getElem?_eq_some_iff.mp e).1
      rwa [rngL_len] at this
    rw [rngL_get hi] at e
    cases e
    exact ⟨_, rfl, hs i ρ S hi p⟩
  rwa [rngL_len] at this
theorem forR_rt {k : Nat} {b : MSt} {ρ0 : Rho} {S0 : Sto} {r : SR} {lo : Int} {n : Nat} (hr : forX (.nm k) b (rngL lo n) ρ0 S0 = r) (P : Nat → Rho → Sto → Prop) (R : D → Sto → Prop) (h0 : P 0 ρ0 S0)
    (hs : ∀ i ρ S, i < n → P i ρ S → stepR (P (i + 1)) R (b (ρ.set k (some (.int (lo + i)))) S)) : (∃ ρ S, r = .nx ρ S ∧ P n ρ S) ∨ ∃ d S, r = .rt d S ∧ R d S := by
  have := forX_rt (t := .nm k) hr P R h0 fun i x ρ S e p => by
    have hi : i < n := by
      have := (List.getElem?_eq_some_iff.mp e).1
      rwa [rngL_len] at this
    rw [rngL_get hi] at e
    cases e
    exact ⟨_, rfl, hs i ρ S hi p⟩
  rwa [rngL_len] at this
/-- over a list, to a name -/
theorem forN_nx {k : Nat} {b : MSt} {ρ0 : Rho} {S0 : Sto} {r : SR} {xs : List D} (hr : forX (.nm k) b xs ρ0 S0 = r) (P : Nat → Rho → Sto → Prop) (h0 : P 0 ρ0 S0)
    (hs : ∀ i x ρ S, xs[i]? = some x → P i ρ S → stepN (P (i + 1)) (b (ρ.set k (some x)) S)) : ∃ ρ S, r = .nx ρ S ∧ P xs.length ρ S :=
  forX_nx (t := .nm k) hr P h0 fun i x ρ S e p => ⟨_, rfl, hs i x ρ S e p⟩
theorem forN_rt {k : Nat} {b : MSt} {ρ0 : Rho} {S0 : Sto} {r : SR} {xs : List D} (hr : forX (.nm k) b xs ρ0 S0 = r) (P : Nat → Rho → Sto → Prop) (R : D → Sto → Prop) (h0 : P 0 ρ0 S0)
    (hs : ∀ i x ρ S, xs[i]? = some x → P i ρ S → stepR (P (i + 1)) R (b (ρ.set k (some x)) S)) : (∃ ρ S, r = .nx ρ S ∧ P xs.length ρ S) ∨ ∃ d S, r = .rt d S ∧ R d S :=
  forX_rt (t := .nm k) hr P R h0 fun i x ρ S e p => ⟨_, rfl, hs i x ρ S e p⟩
/-- a loop that reads its source at each turn (a tracked list, a locked dict) -/
theorem forG_nx {it : MIt} {t : Tg} {b : MSt} {m : Nat} {ρ0 : Rho} {S0 : Sto} {r : SR} (hr : forGo it t b m 0 ρ0 S0 = r) (xs : List D) (P : Nat → Rho → Sto → Prop) (hm : xs.length < m) (h0 : P 0 ρ0 S0)
    (hget : ∀ i ρ S, P i ρ S → it.get i S = some xs[i]?)
    (hs : ∀ i x ρ S, xs[i]? = some x → P i ρ S → ∃ ρ1, tgM t x ρ S = some ρ1 ∧ stepN (P (i + 1)) (b ρ1 S)) : ∃ ρ S, r = .nx ρ S ∧ P xs.length ρ S := by
  refine forI hr xs P (fun r => ∃ ρ S, r = .nx ρ S ∧ P xs.length ρ S) hm h0 (fun i ρ S _ p => hget i ρ S p) (fun i x ρ S e p => ?_) fun ρ S p => ⟨ρ, S, rfl, p⟩
  obtain ⟨ρ1, e1, q⟩ := hs i x ρ S e p
  refine ⟨ρ1, e1, ?_⟩
  cases hb : b ρ1 S <;> rw [hb] at q <;> first | exact q | exact q.elim
theorem forG_rt {it : MIt} {t : Tg} {b : MSt} {m : Nat} {ρ0 : Rho} {S0 : Sto} {r : SR} (hr : forGo it t b m 0 ρ0 S0 = r) (xs : List D) (P : Nat → Rho → Sto → Prop) (R : D → Sto → Prop) (hm : xs.length < m) (h0 : P 0 ρ0 S0)
    (hget : ∀ i ρ S, P i ρ S → it.get i S = some xs[i]?)
    (hs : ∀ i x ρ S, xs[i]? = some x → P i ρ S → ∃ ρ1, tgM t x ρ S = some ρ1 ∧ stepR (P (i + 1)) R (b ρ1 S)) : (∃ ρ S, r = .nx ρ S ∧ P xs.length ρ S) ∨ ∃ d S, r = .rt d S ∧ R d S := by
  refine forI hr xs P (fun r => (∃ ρ S, r = .nx ρ S ∧ P xs.length ρ S) ∨ ∃ d S, r = .rt d S ∧ R d S) hm h0 (fun i ρ S _ p => hget i ρ S p) (fun i x ρ S e p => ?_) fun ρ S p => .inl ⟨ρ, S, rfl, p⟩
  obtain ⟨ρ1, e1, q⟩ := hs i x ρ S e p
  refine ⟨ρ1, e1, ?_⟩
  cases hb : b ρ1 S <;> rw [hb] at q <;> first | exact q | exact q.elim | exact .inr ⟨_, _, rfl, q⟩
/-- the keys of a locked dict, to a name -/
theorem forK_nx {l k n : Nat} {b : MSt} {m : Nat} {ρ0 : Rho} {S0 : Sto} {r : SR} (hr : forGo ⟨kyGet l, n⟩ (.nm k) b m 0 ρ0 S0 = r) (kvs : List (Key × D)) (P : Nat → Rho → Sto → Prop) (hm : kvs.length < m) (h0 : P 0 ρ0 S0)
    (hd : ∀ i ρ S, P i ρ S → S[l]? = some (.dct true kvs))
    (hs : ∀ i kv ρ S, kvs[i]? = some kv → P i ρ S → stepN (P (i + 1)) (b (ρ.set k (some (keyOf kv.1))) S)) : ∃ ρ S, r = .nx ρ S ∧ P kvs.length ρ S := by
  have := forG_nx (t := .nm k) hr (kvs.map fun kv => keyOf kv.1) P (by rwa [List.length_map]) h0 (fun i ρ S p => kyGet_ok (hd i ρ S p) i) fun i x ρ S e p => by
    rw [List.getElem?_map] at e
    obtain ⟨kv, e1, rfl⟩ := Option.map_eq_some_iff.mp e
    exact ⟨_, rfl, hs i kv ρ S e1 p⟩
  rwa [List.length_map] at this
theorem forK_rt {l k n : Nat} {b : MSt} {m : Nat} {ρ0 : Rho} {S0 : Sto} {r : SR} (hr : forGo ⟨kyGet l, n⟩ (.nm k) b m 0 ρ0 S0 = r) (kvs : List (Key × D)) (P : Nat → Rho → Sto → Prop) (R : D → Sto → Prop) (hm : kvs.length < m) (h0 : P 0 ρ0 S0)
    (hd : ∀ i ρ S, P i ρ S → S[l]? = some (.dct true kvs))
    (hs : ∀ i kv ρ S, kvs[i]? = some kv → P i ρ S → stepR (P (i + 1)) R (b (ρ.set k (some (keyOf kv.1))) S)) : (∃ ρ S, r = .nx ρ S ∧ P kvs.length ρ S) ∨ ∃ d S, r = .rt d S ∧ R d S := by
  have := forG_rt (t := .nm k) hr (kvs.map fun kv => keyOf kv.1) P R (by rwa [List.length_map]) h0 (fun i ρ S p => kyGet_ok (hd i ρ S p) i) fun i x ρ S e p => by
    rw [List.getElem?_map] at e
    obtain ⟨kv, e1, rfl⟩ := Option.map_eq_some_iff.mp e
    exact ⟨_, rfl, hs i kv ρ S e1 p⟩
  rwa [List.length_map] at this
/-! ### comprehensions that read their source at each turn -/
theorem lcG_map {t : Tg} {me : MEx} {ρ : Rho} {S : Sto} {xs : List D} {it : MIt} (hf : it.fuel = xs.length + 1) (hg : ∀ i acc, it.get i (S ++ [.lst acc]) = some xs[i]?) (f : D → D)
    (h : ∀ x ∈ xs, ∀ acc, ∃ ρ1, tgM t x ρ (S ++ [.lst acc]) = some ρ1 ∧ me ρ1 (S ++ [.lst acc]) = .ok (f x) (S ++ [.lst acc])) (hl : xs.length ≤ 100000) (hp : pureAll (xs.map f) = true) :
    exitR false S (lcGo it t tYesM me ρ S.length it.fuel 0 (S ++ [.lst []])) = .ok (.vl (xs.map f)) S := by
  have e : xs.filter (fun _ => true) = xs := List.filter_eq_self.mpr fun _ _ => rfl
  have := lc_val (it := it) (t := t) (tt := tYesM) (me := me) (ρ := ρ) (S := S) xs (fun _ => true) f hf hg (fun x hx acc => by
    obtain ⟨ρ1, h1, h2⟩ := h x hx acc
    exact ⟨ρ1, h1, rfl, fun _ => h2⟩) hl (by rw [e]; exact hp)
  rw [e] at this
  exact this
theorem kLV_it {it : MIt} {t : Tg} {tt : MTs} {me : MEx} {own : List Nat} {ρ : Rho} {S : Sto} : kLV S (.ok it S) t tt me own ρ = exitR false S (lcGo it t tt me (clr own ρ) S.length it.fuel 0 (S ++ [.lst []])) := rfl
end MP

set_option Elab.async false
set_option linter.all false
set_option maxRecDepth 100000
set_option maxHeartbeats 4000000
namespace MP
open PySem L2
/-! ### sorted, of a list of pairs of ints -/
def lexLe (a b : Int × Int) : Prop := a.1 < b.1 ∨ (a.1 = b.1 ∧ a.2 ≤ b.2)
instance (a b : Int × Int) : Decidable (lexLe a b) := by unfold lexLe; infer_instance
def rSortedPT (K : PySem.W.Frag) : List V → Hp → VK → Prop := fun vs H Q => ∃ (a : Addr) (ps : List (V × (Int × Int))), vs = [V.ref a] ∧ SqL K H a (ps.map (·.1)) ∧ (∀ p ∈ ps, ∃ t, p.1 = V.ref t ∧ SqT K H t [.int p.2.1, .int p.2.2]) ∧
  ∀ (ys : List (V × (Int × Int))) (q : Addr), ys.Perm ps → ys.Pairwise (fun a b => lexLe a.2 b.2) → H q = none → Q (.ref q) (upd H q (.lst (ys.map (·.1))))
section
variable {X : Cx}
open Classical in
theorem cr_sortedPT : CallR X (.builtin "sorted") (rSortedPT X.K) := by
  intro pins s σ H vs us Q I r h
  obtain ⟨a, ps, rfl, hs, hx, q⟩ := h
  obtain ⟨its, rv, hl, hz⟩ := I.list hs
  obtain ⟨u, rfl, ru⟩ := vals1 r
  obtain rfl : u = Value.ref a := ru
  obtain ⟨k, hk⟩ : ∃ k : V → Int × Int, ∀ p ∈ ps, k p.1 = p.2 := by
    refine ⟨fun v => if h : ∃ z, (v, z) ∈ ps then h.choose else (0, 0), fun p hp => ?_⟩
    have hex : ∃ z, (p.1, z) ∈ ps := ⟨p.2, hp⟩
    simp only [dif_pos hex]
    have hc := hex.choose_spec
    obtain ⟨t, e, st⟩ := hx p hp
    obtain ⟨t', e', st'⟩ := hx _ hc
    rw [e] at e'
    injection e' with e'
    subst e'
    have := I.tuple_inj st st'
    injection this with h1 h2
    injection h2 with h2 _
    injection h1 with h1
    injection h2 with h2
    exact Prod.ext h1.symm h2.symm
  obtain ⟨xs, hxs⟩ : ∃ xs, xs = ps.map (·.1) := ⟨_, rfl⟩
  have hps : ps = xs.map fun v => (v, k v) := by
    rw [hxs, List.map_map]
    conv => lhs; rw [← List.map_id ps]
    refine List.map_congr_left fun p hp => ?_
    show p = (p.1, k p.1)
    rw [hk p hp]
  rw [← hxs] at rv hs hz
  have hx' : ∀ x ∈ xs, ∃ t, x = V.ref t ∧ SqT X.K H t [.int (k x).1, .int (k x).2] := fun x m => by
    rw [hxs] at m
    obtain ⟨p, hp, rfl⟩ := List.mem_map.mp m
    obtain ⟨t, e, st⟩ := hx p hp
    exact ⟨t, e, by rw [hk p hp]; exact st⟩
  obtain ⟨e1, e2⟩ := refs_back rv fun x m => by
    obtain ⟨t, e, _⟩ := hx' x m
    exact ⟨t, e⟩
  refine SrtO.sorted_pairsO (k := fun u => k (backV u)) hl.isList (by rw [← rv.length]; exact hz) (fun v hv => ?_) fun h' d out h1 h2 kp hd hn => ?_
  · obtain ⟨t, rfl⟩ := e2 v hv
    have hm : V.ref t ∈ xs := by rw [e1]; exact List.mem_map.mpr ⟨_, hv, rfl⟩
    obtain ⟨t', e, ht⟩ := hx' _ hm
    cases e
    obtain ⟨its2, r2, ⟨o, ho, hc, n, hd⟩, _⟩ := I.tuple ht
    obtain ⟨u1, u2, rfl, ri, rj⟩ := vals2 r2
    obtain ⟨t1, rfl⟩ := ri
    obtain ⟨t2, rfl⟩ := rj
    exact ⟨t, o, t1, t2, n, rfl, ho, hc, hd⟩
  · have h3 : ∀ u ∈ out, ∃ a, u = Value.ref a := fun u hu => e2 u (h2.perm.mem_iff.mp hu)
    obtain ⟨n, hn⟩ := hn
    have hb : SrtO.Stb (ltP k) (out.map backV) xs := by
      rw [e1]
      exact SrtO.Stb.map (ltP_swo k) backV h2
    have hsrt : SrtO.Srtd (ltP k) (out.map backV) := SrtO.srtd_map h1
    have fin := q ((out.map backV).map fun v => (v, k v)) d (by rw [hps]; exact hb.perm.map _) (by
      rw [List.pairwise_map]
      refine List.Pairwise.imp (fun {x y} h => ?_) hsrt
      have h' := SrtO.lexB_no.mp h
      unfold lexLe
      dsimp only
      omega) (I.hok.fresh hd)
    rw [List.map_map, show ((fun p : V × (Int × Int) => p.1) ∘ fun v => (v, k v)) = id from rfl, List.map_id] at fin
    refine ⟨.ref d, upd H d (.lst (out.map backV)), I.laid (t' := s.toks) kp hd ⟨?_, out, n, vals_back h3, hn⟩, rfl, fin⟩
    rw [hb.len]
    exact hz
end
/-! the same over the mirrors -/
def insP (a : Int × Int) : List (Int × Int) → List (Int × Int)
  | [] => [a]
  | b :: l => if lexLe a b then a :: b :: l else b :: insP a l
def sortP : List (Int × Int) → List (Int × Int)
  | [] => []
  | a :: l => insP a (sortP l)
theorem insP_perm (a : Int × Int) : ∀ l, (insP a l).Perm (a :: l)
  | [] => .refl _
  | b :: l => by
    unfold insP
    split
    · exact .refl _
    · exact (List.Perm.cons b (insP_perm a l)).trans (List.Perm.swap a b l)
theorem sortP_perm : ∀ l, (sortP l).Perm l
  | [] => .refl _
  | a :: l => (insP_perm a (sortP l)).trans (List.Perm.cons a (sortP_perm l))
theorem lexLe_tot {a b : Int × Int} (h : ¬ lexLe a b) : lexLe b a := by unfold lexLe at *; omega
theorem lexLe_trans {a b c : Int × Int} (h : lexLe a b) (h2 : lexLe b c) : lexLe a c := by unfold lexLe at *; omega
theorem lexLe_anti {a b : Int × Int} (h : lexLe a b) (h2 : lexLe b a) : a = b := by
  unfold lexLe at *
  exact Prod.ext (by omega) (by omega)
theorem insP_sorted (a : Int × Int) : ∀ l : List (Int × Int), l.Pairwise lexLe → (insP a l).Pairwise lexLe
  | [], _ => List.pairwise_singleton _ _
  | b :: l, h => by
    obtain ⟨h1, h2⟩ := List.pairwise_cons.mp h
    unfold insP
    split
    · rename_i q
      refine List.pairwise_cons.mpr ⟨fun x hx => ?_, h⟩
      rcases List.mem_cons.mp hx with rfl | hx
      · exact q
      · exact lexLe_trans q (h1 x hx)
    · rename_i q
      refine List.pairwise_cons.mpr ⟨fun x hx => ?_, insP_sorted a l h2⟩
      rcases List.mem_cons.mp ((insP_perm a l).mem_iff.mp hx) with rfl | hx
      · exact lexLe_tot q
      · exact h1 x hx
theorem sortP_sorted : ∀ l : List (Int × Int), (sortP l).Pairwise lexLe
  | [] => .nil
  | a :: l => insP_sorted a _ (sortP_sorted l)
theorem sortedP_uniq : ∀ (xs ys : List (Int × Int)), xs.Perm ys → xs.Pairwise lexLe → ys.Pairwise lexLe → xs = ys
  | [], ys, p, _, _ => (List.Perm.nil_eq p)
  | x :: xs, [], p, _, _ => absurd p.length_eq (by simp)
  | x :: xs, y :: ys, p, h1, h2 => by
    have a1 := List.pairwise_cons.mp h1
    have a2 := List.pairwise_cons.mp h2
    have hx : x ∈ y :: ys := p.mem_iff.mp List.mem_cons_self
    have hy : y ∈ x :: xs := p.mem_iff.mpr List.mem_cons_self
    have e : x = y := by
      rcases List.mem_cons.mp hx with z | z
      · exact z
      · rcases List.mem_cons.mp hy with w | w
        · exact w.symm
        · exact lexLe_anti (a1.1 y w) (a2.1 x z)
    subst e
    rw [sortedP_uniq xs ys (List.Perm.cons_inv p) a1.2 a2.2]
def pD (p : Int × Int) : D := .tup [.int p.1, .int p.2]
def pairOf : D → Option (Int × Int)
  | .tup [.int a, .int b] => some (a, b)
  | _ => none
theorem pairOf_ok {d : D} {p : Int × Int} (h : pairOf d = some p) : d = pD p := by
  unfold pairOf at h
  split at h
  · cases h; rfl
  · cases h
def pairsOf : List D → Option (List (Int × Int)) := optAll pairOf
theorem pairsOf_map : ∀ (ps : List (Int × Int)), pairsOf (ps.map pD) = some ps
  | [] => rfl
  | p :: ps => by
    have := pairsOf_map ps
    unfold pairsOf at this ⊢
    rw [List.map_cons]
    simp only [optAll, this, pairOf, pD]
theorem pairsOf_ok {K : PySem.W.Frag} {G : Ga} {H : Hp} {φ : List Addr} : ∀ {xs : List D} {ws : List V} {ps : List (Int × Int)}, RVs K G H φ xs ws → pairsOf xs = some ps →
    ∃ zs : List (V × (Int × Int)), zs.map (·.1) = ws ∧ zs.map (·.2) = ps ∧ ∀ z ∈ zs, ∃ t, z.1 = V.ref t ∧ SqT K H t [.int z.2.1, .int z.2.2]
  | _, _, _, .nil, h => by cases h; exact ⟨[], rfl, rfl, fun z hz => absurd hz List.not_mem_nil⟩
  | _, _, ps, .cons (d := d) (v := v) (ds := ds) (vs := vs) a b, h => by
    unfold pairsOf optAll at h
    split at h
    · rename_i y ys e1 e2
      cases h
      obtain ⟨zs, h1, h2, h3⟩ := pairsOf_ok b e2
      have hd := pairOf_ok e1
      subst hd
      unfold pD at a
      cases a with
      | tup q r =>
        rename_i t _
        cases r with
        | cons r1 r2 =>
          cases r1
          cases r2 with
          | cons r3 r4 =>
            cases r3
            cases r4
            refine ⟨(.ref _, y) :: zs, by rw [List.map_cons, h1], by rw [List.map_cons, h2], fun z hz => ?_⟩
            rcases List.mem_cons.mp hz with rfl | hz
            · exact ⟨_, rfl, q⟩
            · exact h3 z hz
    · cases h
theorem pairs_rvs {K : PySem.W.Frag} {G : Ga} {H : Hp} {φ : List Addr} : ∀ {zs : List (V × (Int × Int))}, (∀ z ∈ zs, ∃ t, z.1 = V.ref t ∧ SqT K H t [.int z.2.1, .int z.2.2]) → RVs K G H φ ((zs.map (·.2)).map pD) (zs.map (·.1))
  | [], _ => .nil
  | (v, p) :: zs, h => by
    obtain ⟨t, e, st⟩ := h (v, p) List.mem_cons_self
    dsimp only at e st
    subst e
    exact .cons (.tup st (.cons .int (.cons .int .nil))) (pairs_rvs fun z hz => h z (List.mem_cons_of_mem _ hz))
def sortPO (tr : Bool) (xs : Option (List D)) (S : Sto) : Res D := match xs with
  | some xs => match pairsOf xs with
    | some ps => newL tr ((sortP ps).map pD) S
    | none => .stuck
  | none => .stuck
def cSortP (tr : Bool) (ds : List D) (S : Sto) : Res D := match ds with
  | [d] => sortPO tr (lstO S d) S
  | _ => .stuck
section
variable {G : Ga} {W : WX}
theorem s_sortP {K : PySem.W.Frag} {tr : Bool} : CallS K G W (cSortP tr) (rSortedPT K) := by
  intro φ S σ H ds vs Q em r h
  unfold cSortP at h
  split at h
  · rename_i d
    cases r with
    | @cons _ v _ _ a b =>
      cases b
      unfold sortPO at h
      split at h
      · rename_i xs es
        split at h
        · rename_i ps e
          obtain ⟨p, ws, rfl, sq, rv⟩ := lst_ok em a es
          obtain ⟨zs, h1, h2, h3⟩ := pairsOf_ok rv e
          refine ⟨p, zs, rfl, by rw [h1]; exact sq, h3, fun ys q pm so hq => ?_⟩
          have e2 : ys.map (·.2) = sortP ps := by
            refine sortedP_uniq _ _ ?_ (by rw [List.pairwise_map]; exact so) (sortP_sorted ps)
            have := pm.map (fun z : V × (Int × Int) => z.2)
            rw [h2] at this
            exact this.trans (sortP_perm ps).symm
          have rr : RVs K G H φ ((ys.map (·.2)).map pD) (ys.map (·.1)) := pairs_rvs fun z hz => h3 z (pm.mem_iff.mp hz)
          rw [e2] at rr
          exact h.newL em rr hq
        · exact h.elim
      · exact h.elim
  · exact h.elim
end
theorem r_sortP {tr : Bool} {d : D} {S : Sto} : cSortP tr [d] S = sortPO tr (lstO S d) S := rfl
theorem sortPO_ok {tr : Bool} {xs : List D} {ps : List (Int × Int)} {S : Sto} (h : pairsOf xs = some ps) : sortPO tr (some xs) S = newL tr ((sortP ps).map pD) S := by
  simp only [sortPO, h]
/-! ### a loop by an invariant that gets smaller -/
theorem whileX {c : MTs} {b : MSt} {ρ : Rho} {S : Sto} {r : SR} (hr : whileN c b FUEL ρ S = r) (P : Nat → Rho → Sto → Prop) (R : Rho → Sto → Prop) (n : Nat) (hn : n < 1000000) (h0 : P n ρ S)
    (hs : ∀ n ρ S, P n ρ S → ∃ t S1, c ρ S = .ok t S1 ∧ (t = false → R ρ S1) ∧ (t = true → stepN (fun ρ' S' => ∃ n', n' < n ∧ P n' ρ' S') (b ρ S1))) : ∃ ρ S, r = .nx ρ S ∧ R ρ S := by
  refine whileI' hr P (fun r => ∃ ρ S, r = .nx ρ S ∧ R ρ S) n hn h0 fun n ρ S p => ?_
  obtain ⟨t, S1, e, h1, h2⟩ := hs n ρ S p
  refine ⟨t, S1, e, fun z => ⟨ρ, S1, rfl, h1 z⟩, fun z => ?_⟩
  have q := h2 z
  cases hb : b ρ S1 <;> rw [hb] at q <;> first | exact q | exact q.elim
theorem perm_map_ex {α β : Type} {f : α → β} {l l' : List β} (h : l.Perm l') : ∀ {m : List α}, l' = m.map f → ∃ js : List α, js.Perm m ∧ l = js.map f := by
  induction h with
  | nil =>
    intro m e
    exact ⟨m, .refl _, e⟩
  | cons x h ih =>
    intro m e
    cases m with
    | nil => cases e
    | cons a m =>
      rw [List.map_cons] at e
      injection e with e1 e2
      obtain ⟨js, p, q⟩ := ih e2
      exact ⟨a :: js, p.cons a, by rw [List.map_cons, ← q, e1]⟩
  | swap x y l =>
    intro m e
    match m, e with
    | [], e => cases e
    | [a], e => simp at e
    | a :: b :: m, e =>
      simp only [List.map_cons, List.cons.injEq] at e
      exact ⟨b :: a :: m, List.Perm.swap a b m, by simp only [List.map_cons]; rw [e.1, e.2.1, e.2.2]⟩
  | trans h1 h2 ih1 ih2 =>
    intro m e
    obtain ⟨js, p, q⟩ := ih2 e
    obtain ⟨ks, p2, q2⟩ := ih1 q
    exact ⟨ks, p2.trans p, q2⟩
theorem nodup_lt_len : ∀ (n : Nat) {l : List Nat}, l.Nodup → (∀ x ∈ l, x < n) → l.length ≤ n
  | 0, [], _, _ => Nat.le_refl _
  | 0, x :: l, _, h => absurd (h x List.mem_cons_self) (Nat.not_lt_zero _)
  | n + 1, l, nd, h => by
    have h1 := nodup_lt_len n (l := l.filter fun x => decide (x ≠ n)) (by rw [List.nodup_iff_pairwise_ne] at *; exact List.Pairwise.filter _ nd) fun x hx => by
      obtain ⟨a, b⟩ := List.mem_filter.mp hx
      have := h x a
      have := of_decide_eq_true b
      omega
    have h2 : ∀ l : List Nat, l.Nodup → l.length ≤ (l.filter fun x => decide (x ≠ n)).length + 1 := fun l => by
      intro nd
      induction l with
      | nil => simp
      | cons a l ih =>
        obtain ⟨n1, n2⟩ := List.nodup_cons.mp nd
        by_cases z : a = n
        · have e : (l.filter fun x => decide (x ≠ n)) = l := List.filter_eq_self.mpr fun x hx => decide_eq_true fun w => n1 (by rw [z, ← w]; exact hx)
          rw [List.filter_cons_of_neg (by simp [z]), e, List.length_cons]
          exact Nat.le_refl _
        · rw [List.filter_cons_of_pos (by simp [z]), List.length_cons, List.length_cons]
          have := ih n2
          omega
    have := h2 l nd
    omega
end MP

set_option Elab.async false
set_option linter.all false
set_option maxRecDepth 100000
set_option maxHeartbeats 4000000
namespace MP
open PySem L2 PyProof.Rows
/-! ### dicts that are equal, value by value -/
section
variable {X : Cx} {G : Ga} {W : WX} {k : Nat}
theorem hitsD {pins : List (Addr × Obj)} {σ : L2.St} {H : Hp} {s : Shared} (I : Inv X pins σ H s) {A : Around} (hu : A.units + 64 < cLine) {kvs : List (Key × V)} {vb : List (Key × Value)} (rb : KV kvs vb) {ks : List (Key × V)} {va : List (Key × Value)} (ra : KV ks va) :
    (∀ p ∈ ks, ∃ u d e, valV kvs p.1 = some u ∧ Dp X.K H p.2 d ∧ Dp X.K H u e ∧ d.canLay0 = true ∧ e.canLay0 = true ∧ d.depth ≤ 40 ∧ PyData.eqv d e = true) → PySem.W.KeqHits A.in1 s vb va true := by
  unfold KV at ra
  induction ra with
  | nil => intro _; exact .nil
  | @cons p q ps qs h t ih =>
    intro hp
    obtain ⟨h1, h2⟩ := h
    obtain ⟨u, d, e, ev, hd, he, sd, se, dd, eq⟩ := hp p List.mem_cons_self
    have rr : RelO (some u) (valueAt vb p.1) := by rw [← ev]; exact rb.val p.1
    obtain ⟨y, hy, ry⟩ := rr.some_of
    obtain ⟨key, v⟩ := q
    have h1' : p.1 = key := h1
    rw [h1'] at hy
    obtain ⟨as, r1⟩ := Dp.reads I d p.2 v hd h2
    obtain ⟨bs, r2⟩ := Dp.reads I e u y he ry
    have ea := SeqAt.eqAt_reads d e A.in1 s v y as bs r1 r2 sd se (by
      show A.units + 1 + min d.depth e.depth < cLine
      have := Nat.min_le_left d.depth e.depth
      omega)
    rw [eq] at ea
    show PySem.W.KeqHits A.in1 s vb ((key, v) :: qs) (true && true)
    exact .hit hy ea (ih fun p' hm => hp p' (List.mem_cons_of_mem _ hm))
def rDD (K : PySem.W.Frag) (neg : Bool) : R2 := fun x y H Q => ∃ a b ks ls, x = .ref a ∧ y = .ref b ∧ H a = some (.dK ks) ∧ H b = some (.dK ls) ∧ ks.length = ls.length ∧
  (∀ p ∈ ks, ∃ u d e, valV ls p.1 = some u ∧ Dp K H p.2 d ∧ Dp K H u e ∧ d.canLay0 = true ∧ e.canLay0 = true ∧ d.depth ≤ 40 ∧ PyData.eqv d e = true) ∧ Q (.bl (!neg)) H
theorem op_ddeq (d : DX X G W k) : OpR X (compareOp .Eq) (rDD X.K false) := by
  intro pins s σ H x y v u Q I rx ry h
  obtain ⟨a, b, ks, ls, rfl, rfl, ea, eb, hl, hc, q⟩ := h
  obtain rfl : v = Value.ref a := rx
  obtain rfl : u = Value.ref b := ry
  obtain ⟨_, ya, va, ra, da⟩ := (show ObjOk X.prog X.w H s.heap a (.dK ks) from I.hok a _ ea)
  obtain ⟨_, yb, vb, rb, db⟩ := (show ObjOk X.prog X.w H s.heap b (.dK ls) from I.hok b _ eb)
  have la : ks.length = va.length := ra.length
  have lb : ls.length = vb.length := rb.length
  have hu := d.hr.units
  refine PySem.W.keq_eq (knd := mixKind X.prog X.w) (r := true) ya yb da db (by omega) (fun e => hitsD I (A := X.A) hu rb ra hc) (fin_bl I q (by rw [← la, ← lb, hl]; simp))
theorem op_ddne (d : DX X G W k) : OpR X (compareOp .NotEq) (rDD X.K true) := by
  intro pins s σ H x y v u Q I rx ry h
  obtain ⟨a, b, ks, ls, rfl, rfl, ea, eb, hl, hc, q⟩ := h
  obtain rfl : v = Value.ref a := rx
  obtain rfl : u = Value.ref b := ry
  obtain ⟨_, ya, va, ra, da⟩ := (show ObjOk X.prog X.w H s.heap a (.dK ks) from I.hok a _ ea)
  obtain ⟨_, yb, vb, rb, db⟩ := (show ObjOk X.prog X.w H s.heap b (.dK ls) from I.hok b _ eb)
  have la : ks.length = va.length := ra.length
  have lb : ls.length = vb.length := rb.length
  have hu := d.hr.units
  refine PySem.W.keq_ne (knd := mixKind X.prog X.w) (r := true) ya yb da db (by omega) (fun e => hitsD I (A := X.A) hu rb ra hc) (fin_bl I q (by rw [← la, ← lb, hl]; simp))
end
/-! over the mirrors: as dEqE, or equal value by value -/
def eqB (S : Sto) (x y : D) : Bool := match pd S 8 x, pd S 8 y with
  | some p, some q => p.canLay0 && q.canLay0 && decide (p.depth ≤ 40) && PyData.eqv p q
  | _, _ => false
def eqKV (S : Sto) (ks ls : List (Key × D)) : Bool := decide (ks.length = ls.length) && ks.all fun kv => match valD ls kv.1 with
  | some d => eqB S kv.2 d
  | none => false
def deX (neg : Bool) (a b : Option (List (Key × D))) (S : Sto) : Res D := match a, b with
  | some ks, some ls => if eqKV S ks ls = true then .ok (.bl (!neg)) S else .stuck
  | _, _ => .stuck
def dEqX (neg : Bool) (x y : D) (S : Sto) : Res D := deX neg (dctU S x) (dctU S y) S
theorem RKs.mem {K : PySem.W.Frag} {G : Ga} {H : Hp} {φ : List Addr} : ∀ {kvs : List (Key × D)} {vs : List (Key × V)}, RKs K G H φ id kvs vs → ∀ p ∈ vs, ∃ kv ∈ kvs, kv.1 = p.1 ∧ RV K G H φ kv.2 p.2
  | _, _, .nil, p, hp => absurd hp List.not_mem_nil
  | _, _, .cons (k := k) (d := d) a b, p, hp => by
    rcases List.mem_cons.mp hp with rfl | hp
    · exact ⟨_, List.mem_cons_self, rfl, a⟩
    · obtain ⟨kv, h1, h2, h3⟩ := RKs.mem b p hp
      exact ⟨kv, List.mem_cons_of_mem _ h1, h2, h3⟩
section
variable {G : Ga} {W : WX}
theorem s_deX {K : PySem.W.Frag} {neg : Bool} : OpS K G W (dEqX neg) (rDD K neg) := by
  intro φ S σ H d1 d2 v1 v2 Q em r1 r2 h
  unfold dEqX deX at h
  split at h
  · rename_i ks ls e1 e2
    split at h
    · rename_i hc
      obtain ⟨p, vs, rfl, hp, rk⟩ := dctU_ok em r1 e1
      obtain ⟨q, us, rfl, hq, rk2⟩ := dctU_ok em r2 e2
      unfold eqKV at hc
      rw [Bool.and_eq_true] at hc
      have hl := of_decide_eq_true hc.1
      have hall := List.all_eq_true.mp hc.2
      refine ⟨p, q, vs, us, rfl, rfl, hp, hq, by rw [← rk.length, ← rk2.length, hl], fun x hx => ?_, outR.ok (R := rE K G) h em .bl⟩
      obtain ⟨kv, hkv, hk, rv⟩ := rk.mem x hx
      have := hall kv hkv
      split at this
      · rename_i d ed
        obtain ⟨u, eu, ru⟩ := (rk2.val kv.1).1 d ed
        rw [hk] at eu
        unfold eqB at this
        split at this
        · rename_i p' q' ep eq
          simp only [Bool.and_eq_true, decide_eq_true_eq] at this
          exact ⟨u, p', q', eu, pd_dp em 8 _ _ _ rv ep, pd_dp em 8 _ _ _ ru eq, this.1.1.1, this.1.1.2, this.1.2, this.2⟩
        · cases this
      · cases this
    · exact h.elim
  · exact h.elim
end
end MP

set_option Elab.async false
set_option linter.all false
set_option maxRecDepth 100000
set_option maxHeartbeats 4000000
namespace MP
open PySem L2 PySem.Spec PyProof.Rows
/-! ### sorted(d.values()), a dict with fewer than 64 ints -/
section
variable {X : Cx} {G : Ga} {W : WX} {k : Nat}
def tSortVals (td : TE) : TE := fun σ H Q => td σ H fun x H1 => ∃ a kvs is, x = V.ref a ∧ Rd H1 a (.dK kvs) ∧ kvs.map (·.2) = is.map V.int ∧ is.length < 64 ∧
  ∀ (ys : List Int) (p : Addr), ys.Perm is → ys.Pairwise (· ≤ ·) → H1 p = none → Q (.ref p) (upd H1 p (.lst (ys.map V.int)))
theorem pe_sortVals {o : Expr} {p pos apos mpos : Pos} {td : TE} (hc : X.calm = true) (hg : Gl X "sorted") (hm : X.mg "sorted" = none) (hd : PE X o td) (hbase : attributeBase o "values" X.env (eval o X.env) = eval o X.env := by rfl) (hline : (apos.endLine == mpos.line) = true := by rfl)
    (hse : starEach [Expr.Call (.Attribute o "values" apos) [] [] mpos] X.env = [(false, eval (Expr.Call (.Attribute o "values" apos) [] [] mpos) X.env)] := by rfl) :
    PE X (.Call (.Name "sorted" p) [.Call (.Attribute o "values" apos) [] [] mpos] [] pos) (tSortVals td) := by
  refine ⟨fun pins s σ H Q I h => ?_⟩
  refine wpAny_Call_Name_kw (ld_blt I hg hm (u := .builtin "sorted") (by first | rfl | decide +kernel) ?_ (by first | decide +kernel | decide) (by first | decide +kernel | decide))
  rw [hse]
  refine PySem.callWith_builtin1 (wpAny_Call_method0_late hbase hline (thn (hd.run pins s σ H _ I h) fun v s1 ⟨x, H1, I1, r1, a, kvs, is, ex, ha, hv, h64, q⟩ => ?_))
  subst ex
  obtain rfl : v = Value.ref a := r1
  obtain ⟨_, hsys, vs, rel, dof⟩ := dk_rd I1.hok ha
  obtain ⟨ep, dat⟩ := dof.dictAt
  have dat' := dat
  obtain ⟨ob, es, ho, ex, hdat, hko, hpr, hnd⟩ := dat'
  refine ⟨"dict", "dict.values", F.plainAttrs_dict, F.slot_dict_values, F.type_dict_values, ⟨ob, ho, ex.1⟩, fun b e => ?_, Calls.callWith_builtin rfl (PySem.evalArgs_none ?_)⟩
  · cases e
    exact ⟨ob, ho, ex.2.1⟩
  refine call_meetsIn F.slot_dict_values ⟨ob, ho, ex.1⟩ F.entry_dict_values (F.args_dict_values_1 _) (meets_dict_values (mixKind X.prog X.w) a hsys) ⟨⟨vs, dof⟩, ?_⟩
  have k1 : ∀ b u, s1.heap.get? b = some u → (s1.heap.push { cls := .type "dict_values", data := .fields #[.ref a] }).get? b = some u := fun b u e => Heap.get?_push_of_some _ e
  have dat1 : (s1.heap.push { cls := .type "dict_values", data := .fields #[.ref a] }).DictAt (mixKind X.prog X.w) a vs ep := dat.keep k1
  have hlv : vs.length = is.length := by
    have e1 := congrArg List.length hv
    rw [List.length_map, List.length_map] at e1
    rw [← e1]
    exact (KV.length rel).symm
  have h16 : vs.length ≤ sizeLine := by rw [hlv, sizeLine_eq]; omega
  have hval : ∀ (i : Nat) (v : Value), (∃ k, vs[i]? = some (k, v)) → ∃ y t, is[i]? = some y ∧ v = Value.int y t := fun i v ⟨k, hk⟩ => by
    obtain ⟨x, h1, h2⟩ := KV.at' rel hk
    have e1 : (kvs.map (·.2))[i]? = some x := by rw [List.getElem?_map, h1] <;> rfl
    rw [hv, List.getElem?_map] at e1
    obtain ⟨j, hj, e2⟩ := Option.map_eq_some_iff.mp e1
    subst e2
    obtain ⟨t, e3⟩ := h2
    exact ⟨j, t, hj, e3⟩
  refine Calls.call_function_entry PyProof.Rows.kind_sorted PyProof.Rows.plain_sorted PyProof.Rows.entry_sorted (PyProof.Rows.args_sorted1 _) ?_
  unfold Builtin.«sorted»
  refine wpAny_bind (m := checkCount "sorted" 1 1 _) (wpAny_pure ?_)
  refine wpAny_bind (PySem.W.kdu_collect (A := X.A.in1) (PySem.W.kdl_values (r := s1.heap.objs.size) (d := a) (knd := mixKind X.prog X.w) (kvs := vs) (ep := ep)) (I1.ok.hd hc) ⟨⟨_, Heap.get?_push_size _ rfl, rfl, rfl⟩, dat1⟩ h16 fun h' tk acc hk hacc => ?_)
  have hal : acc.toList.length = is.length := by rw [Array.length_toList, hacc.1, hlv]
  have hS : IntsAre acc.toList is := ints_each hal fun j v e => by
    obtain ⟨y, t, h1, h2⟩ := hval j v (hacc.2 j v (by rw [← Array.getElem?_toList]; exact e))
    exact ⟨y, t, h1, h2⟩
  have I2 : Inv X pins σ H1 { s1 with heap := h', toks := tk } := I1.kept fun b u e => hk b u (k1 b u e)
  refine wpAny_bind (wpAny_newList ?_ (by rw [hal, sizeLine_eq]; omega))
  have hoL : (h'.push (seqObj "list" acc.toList.toArray 0)).get? h'.objs.size = some (seqObj "list" acc.toList.toArray 0) := Heap.get?_push_size _ rfl
  show wpAny _ _ _ _ _ { s1 with heap := h'.push (seqObj "list" acc.toList.toArray 0), toks := tk }
  refine wpAny_bind (wpAny_holding (wpAny_call_entry PyProof.Rows.slot_list_sort ⟨_, hoL, rfl⟩ PyProof.Rows.entry_list_sort
    (PyProof.Rows.list_sort_tree (s := { s1 with heap := h'.push (seqObj "list" acc.toList.toArray 0), toks := tk }) hoL hS (by rw [hal]; exact h64) fun out ys g1 g2 g3 => ⟨_, rfl, ?_⟩) (PyProof.Rows.args_list_sort _)))
  obtain ⟨e', he'⟩ := PyProof.Rows.sortedHeap_at (vs := acc.toList) (out := out) hoL
  have hlen : (ys.map V.int).length ≤ sizeLine := by
    rw [List.length_map, g2.length_eq]
    exact Nat.le_trans (Nat.le_of_lt h64) (by decide)
  refine wpAny_pure ⟨_, rfl, .ref h'.objs.size, upd H1 h'.objs.size (.lst (ys.map V.int)), I2.laid (t' := tk) (fun b u e => ?_) (Nat.le_refl _)
    (show ObjOk X.prog X.w _ _ _ (.lst (ys.map V.int)) from ⟨hlen, out.toList, e', vals_of_ints g1, by rw [Array.toArray_toList]; exact he'⟩), rfl, q ys _ g2 g3 (I2.hok.fresh (Nat.le_refl _))⟩
  have hb : b < h'.objs.size := Heap.lt_size e
  rw [PyProof.Rows.sortedHeap_old (Nat.ne_of_lt hb) (by rw [size_push']; exact Nat.lt_succ_of_lt hb)]
  exact Heap.get?_push_of_some _ e
/-! over the mirrors -/
def sortVO (tr : Bool) (o : Option (List (Key × D))) (S : Sto) : Res D := match o with
  | some kvs => match intsOf (kvs.map (·.2)) with
    | some is => if is.length < 64 then newL tr ((sortI is).map .int) S else .stuck
    | none => .stuck
  | none => .stuck
def mSortV (tr : Bool) (m : MEx) : MEx := fun ρ S => (m ρ S).bind fun o S1 => sortVO tr (dctO S1 o) S1
theorem sortVO_ok {tr : Bool} {kvs : List (Key × D)} {is : List Int} {S : Sto} (h : intsOf (kvs.map (·.2)) = some is) (hl : is.length < 64) : sortVO tr (some kvs) S = newL tr ((sortI is).map .int) S := by
  simp only [sortVO, h, if_pos hl]
theorem d_sortV {tr : Bool} {o : Expr} {mo : MEx} {p pos apos mpos : Pos} (d : DX X G W k) (hm : X.mg "sorted" = none) (ho : PE X o (wpE X.K G W mo)) (hg : Gl X "sorted" := by rfl) (hbase : attributeBase o "values" X.env (eval o X.env) = eval o X.env := by rfl) (hline : (apos.endLine == mpos.line) = true := by rfl)
    (hse : starEach [Expr.Call (.Attribute o "values" apos) [] [] mpos] X.env = [(false, eval (Expr.Call (.Attribute o "values" apos) [] [] mpos) X.env)] := by rfl) :
    PE X (.Call (.Name "sorted" p) [.Call (.Attribute o "values" apos) [] [] mpos] [] pos) (wpE X.K G W (mSortV tr mo)) := by
  refine pe_conv (pe_sortVals d.calm hg hm ho hbase hline hse) ?_
  rintro σ H Q ⟨φ, ρ, S, em, rs, h⟩
  refine ⟨φ, ρ, S, em, rs, h.bind fun x S1 φ1 v1 H1 x1 em1 r1 h1 => ?_⟩
  unfold sortVO at h1
  split at h1
  · rename_i kvs es
    split at h1
    · rename_i is e
      split at h1
      · rename_i hl
        obtain ⟨a, vs, rfl, rd, rk⟩ := dct_ok em1 r1 es
        have rv := RKs.vals rk
        rw [intsOf_ok e] at rv
        refine ⟨a, vs, is, rfl, rd, rvs_ints rv, hl, fun ys q pm so hq => ?_⟩
        rw [sorted_uniq ys (sortI is) (pm.trans (sortI_perm is).symm) so (sortI_sorted is)]
        exact h1.newL em1 ints_rvs hq
      · exact h1.elim
    · exact h1.elim
  · exact h1.elim
/-! ### d.clear() -/
def dClr (o : D) (S : Sto) : Res D := match o with
  | .loc l => match S[l]? with
    | some (.dct false _) => .ok .non (S.set l (.dct false []))
    | _ => .stuck
  | _ => .stuck
def mDClr (mo : MEx) : MEx := fun ρ S => (mo ρ S).bind fun o S1 => dClr o S1
theorem r_dclr {l : Nat} {S : Sto} {kvs : List (Key × D)} (h : S[l]? = some (.dct false kvs)) : dClr (.loc l) S = .ok .non (S.set l (.dct false [])) := by
  simp only [dClr, h]
theorem d_dclr {o : Expr} {mo : MEx} {apos cpos : Pos} (ho : PE X o (wpE X.K G W mo)) (hbase : attributeBase o "clear" X.env (eval o X.env) = eval o X.env := by rfl) (hline : (apos.endLine == cpos.line) = true := by rfl) :
    PE X (.Call (.Attribute o "clear" apos) [] [] cpos) (wpE X.K G W (mDClr mo)) := by
  refine pe_conv (pe_dclear ho hbase hline) ?_
  rintro σ H Q ⟨φ, ρ, S, em, rs, h⟩
  refine ⟨φ, ρ, S, em, rs, h.bind fun x S2 φ2 v2 H2 x2 em2 r2 h2 => ?_⟩
  unfold dClr at h2
  split at h2
  · rename_i l
    split at h2
    · rename_i kvs2 es2
      obtain ⟨a', hr, ha, ro⟩ := em2.at_loc es2 r2
      cases hr
      cases ro with
      | dct e1 rk2 =>
        rename_i vs2
        have n1 : ∀ xs, HO.dK vs2 ≠ .tup xs := fun _ z => nomatch z
        have n2 : ∀ ob w, HO.dK vs2 ≠ .frz ob w := fun _ _ z => nomatch z
        have xa : Ext φ2 H2 φ2 (upd H2 a' (.dK [])) := .at ha e1 n1 n2
        have em3 := em2.set (o := .dct false []) (ho := .dK []) es2 ha e1 n1 n2 (.dct upd_same .nil)
        exact ⟨.inr (.inr (.inl ⟨rfl, .inl ⟨_, e1⟩⟩)), a', vs2, rfl, rfl, e1, h2 φ2 .non _ xa em3 .non⟩
    · exact h2.elim
  · exact h2.elim
end
end MP

set_option Elab.async false
set_option linter.all false
set_option maxRecDepth 100000
set_option maxHeartbeats 4000000
namespace MP
open PySem L2
def Xc.nm : Xc → Str
  | .NoDeed => "NoDeed" | .NoLog => "NoLog" | .NoThing => "NoThing" | .NoField => "NoField" | .NoRoom => "NoRoom"
abbrev veMro : List Value := [.type "ValueError", .type "Exception", .type "BaseException", .type "object"]
/-- an own exception class without __init__ -/
structure FnX (K : PySem.W.Frag) (mg : Str → Option Value) (G : Ga) (c : Xc) : Prop where
  ex : PySem.W.excIn K (G.xc c) veMro "ValueError.__new__" = true ∧ PySem.W.keepIn K (.ref (G.xc c)) = true ∧ PySem.W.subIn K (.ref (G.xc c)) (.type "BaseException") = some true ∧ PySem.W.typeIn K (.ref (G.xc c)) = some (.type "type") ∧ mg c.nm = some (.ref (G.xc c))
section
variable {X : Cx} {G : Ga} {W : WX} {k : Nat}
/-! ### raise C("..") -/
def sRaise (c : Xc) : MSt := fun ρ S => .xc ⟨c, none⟩ ρ S
theorem s_raise {c : Xc} {x m : Str} {j : Nat} {p p2 pos pos2 : Pos} (F : FnX X.K X.mg G c) (d : DX X G W k) (hx : c.nm = x := by rfl) (hg : Gl X x := by rfl) (hdb : (x == ("__debug__" : Str)) = false := by decide) :
    PS X (.Raise (some (.Call (.Name x p) [.Constant (.str m) j p2] [] pos)) none pos2) (wpS X.K G W (sRaise c)) := by
  subst hx
  obtain ⟨h1, h2, h3, h4, h5⟩ := F.ex
  refine ps_conv (ps_raise d.calm d.tk (pmk_own PySem.F.excBase_ValueError h1 h5 h2 (raises_own h3 h4) hg hdb)) ?_
  rintro D σ H ⟨φ, ρ, S, em, rs, h⟩
  exact h φ σ H .refl em rs
/-! ### try: body / except C: suite / .. -/
/-- a class that an except clause names, and which of the known exceptions it catches -/
structure HdX (K : PySem.W.Frag) (mg : Str → Option Value) (G : Ga) (x : Str) (l : List (Xc × Bool)) : Prop where
  ex : ∃ cv, mg x = some cv ∧ ∀ p ∈ l, PySem.W.exmOne K (.ref (G.xc p.1)) cv = some p.2
def noXS : SR → SR
  | .xc _ _ _ => .stuck
  | r => r
def hGo : List (List (Xc × Bool) × MSt) → Ex → Rho → Sto → SR
  | [], e, ρ, S => .xc e ρ S
  | (l, m) :: r, e, ρ, S => match l.lookup e.c with
    | some true => noXS (m ρ S)
    | some false => hGo r e ρ S
    | none => .stuck
def sTry (b : MSt) (hs : List (List (Xc × Bool) × MSt)) : MSt := fun ρ S => match b ρ S with
  | .xc e ρ' S' => hGo hs e ρ' S'
  | r => r
inductive HsD (X : Cx) (G : Ga) : List ExceptHandler → List (List (Xc × Bool) × MSt) → Prop
  | nil : HsD X G [] []
  | cons {x : Str} {l : List (Xc × Bool)} {m : MSt} {b₀ : Stmt} {suite : List Stmt} {np pos' : Pos} {hds : List ExceptHandler} {hs : List (List (Xc × Bool) × MSt)} (F : HdX X.K X.mg G x l) (hg : Gl X x) (hdb : (x == ("__debug__" : Str)) = false)
      (hsu : ∀ (a : Addr) (oe : Obj) (pn : List (Addr × Obj)), PSs (X.suite a ((a, oe) :: pn)) (b₀ :: suite) (wpS X.K G W0 m)) (r : HsD X G hds hs) :
      HsD X G (.ExceptHandler (some (.Name x np)) none (b₀ :: suite) pos' :: hds) ((l, m) :: hs)
theorem lookup_mem {α β : Type} [BEq α] [LawfulBEq α] {l : List (α × β)} {a : α} {b : β} (h : l.lookup a = some b) : (a, b) ∈ l := by
  induction l with
  | nil => cases h
  | cons p r ih =>
    obtain ⟨x, y⟩ := p
    rw [List.lookup_cons] at h
    split at h
    · rename_i e
      cases h
      rw [eq_of_beq e]
      exact List.mem_cons_self
    · exact List.mem_cons_of_mem _ (ih h)
theorem noX_out {K : PySem.W.Frag} {r : SR} {φ : List Addr} {H : Hp} {D : Ends} (h : outS K G W (noXS r) φ H D) : outS K G W0 r φ H D := by
  cases r with
  | xc e ρ S => exact h.elim
  | nx ρ S => exact h
  | rt d S => exact h
  | bk ρ S => exact h
  | ct ρ S => exact h
  | stuck => exact h
theorem hs_ok {hds : List ExceptHandler} {hs : List (List (Xc × Bool) × MSt)} (h : HsD X G hds hs) : ∃ l, HdsOk X hds l ∧
    ∀ (W : WX) (D : Ends) (e : Ex) (φ : List Addr) (ρ : Rho) (S : Sto) (σ : St) (H : Hp), Emb X.K G φ S H → RS X.K G φ ρ σ H → outS X.K G W (hGo hs e ρ S) φ H D → XW X.K G (wMany X.K W D l) e φ σ H := by
  induction h with
  | nil => exact ⟨[], .nil, fun W D e φ ρ S σ H em rs h => h φ σ H .refl em rs⟩
  | @cons x l m b₀ suite np pos' hds hs F hg hdb hsu r ih =>
    obtain ⟨ll, h1, h2⟩ := ih
    obtain ⟨cv, e1, e2⟩ := F.ex
    refine ⟨(cv, fun _ _ _ => wpS X.K G W0 m) :: ll, .cons ⟨hg, hdb, .inl e1⟩ (fun a oe cls d pn _ _ => hsu a oe pn) h1, fun W D e φ ρ S σ H em rs h => ?_⟩
    have key : ∀ dd, (∀ (hf : outS X.K G W (hGo hs e ρ S) φ H D), wMany X.K W D ll (.ref (G.xc e.c)) dd σ H) → wMany X.K W D ((cv, fun _ _ _ => wpS X.K G W0 m) :: ll) (.ref (G.xc e.c)) dd σ H := by
      intro dd hw
      unfold hGo at h
      split at h
      · rename_i q
        exact ⟨true, e2 _ (lookup_mem q), fun _ a _ => ⟨φ, ρ, S, em, rs, noX_out h⟩, fun z => nomatch z⟩
      · rename_i q
        exact ⟨false, e2 _ (lookup_mem q), (fun z => nomatch z), fun _ => hw h⟩
      · exact h.elim
    unfold XW
    have h3 := h2 W D e φ ρ S σ H em rs
    unfold XW at h3
    cases hv : e.v with
    | none => rw [hv] at h3; exact key none h3
    | some y => rw [hv] at h3; exact fun dd v a b => key (some dd) fun hf => h3 hf dd v a b
theorem s_try {body : List Stmt} {h₀ : ExceptHandler} {hds : List ExceptHandler} {mb : MSt} {hs : List (List (Xc × Bool) × MSt)} {pos : Pos} (d : DX X G W k)
    (hb : ∀ (W' : WX) (pn : List (Addr × Obj)) (xe : Value → Shared → Prop), DX (X.tr pn xe) G W' k → PSs (X.tr pn xe) body (wpS X.K G W' mb)) (hh : HsD X G (h₀ :: hds) hs)
    (hs' : X.stack = X.env :: X.outer := by rfl) (hf : X.env.frame = some X.env.locals := by rfl) : PS X (.Try body (h₀ :: hds) [] [] pos) (wpS X.K G W (sTry mb hs)) := by
  obtain ⟨l, h1, h2⟩ := hs_ok hh
  refine ps_conv (ps_try_many hs' hf d.tk (tb := fun W' => wpS X.K G W' mb) (fun W' pn xe tk pp => hb W' pn xe ⟨d.calm, tk, pp, d.hr, d.nd⟩) h1) ?_
  rintro D σ H ⟨φ, ρ, S, em, rs, h⟩
  refine ⟨φ, ρ, S, em, rs, ?_⟩
  unfold sTry at h
  cases q : mb ρ S with
  | nx ρ' S' => rw [q] at h; exact h
  | rt v S' => rw [q] at h; exact h
  | bk ρ' S' => rw [q] at h; exact h
  | ct ρ' S' => rw [q] at h; exact h
  | stuck => rw [q] at h; exact h
  | xc e ρ' S' =>
    rw [q] at h
    intro φ' σ' H' x em' rs'
    exact h2 W D e φ' ρ' S' σ' H' em' rs' (outS.from x h)
/-- x = e where nothing is known of what is handled -/
theorem s_setN {i : Nat} {x : Str} {e : Expr} {m : MEx} {pos pos' : Pos} (hN : X.N.Nodup) (he : PE X e (wpE X.K G W m)) (hi : X.N[i]? = some x := by rfl) (hx : Loc X.env.scope x := by first | exact Or.inl rfl | exact Or.inr rfl)
    (hs : swapsWith e (some (.Name x pos')) pos.line X.env = pure false := by rfl) (hf : X.fn x = true ∨ X.env.scope.names.lookup x = some .local := by first | exact .inl rfl | exact .inr rfl) : PS X (.Assign [.Name x pos'] e pos) (wpS X.K G W (sSet i m)) := by
  refine ps_conv (ps_set hN hi hx he hs hf) ?_
  rintro D σ H ⟨φ, ρ, S, em, rs, h⟩
  refine ⟨φ, ρ, S, em, rs, outR.st rs h fun v S1 φ1 y H1 x em1 rv h1 => ?_⟩
  exact h1 φ1 _ H1 .refl em1 ((rs.ext x).set i rv)
/-- == of two texts -/
def eqSS (x y : D) (S : Sto) : Res D := match x, y with
  | .str a, .str b => .ok (.bl (decide (a = b))) S
  | _, _ => .stuck
theorem s_eqSS {K : PySem.W.Frag} : OpS K G W eqSS rEq := by
  intro φ S σ H d1 d2 v1 v2 Q em r1 r2 h
  unfold eqSS at h
  split at h
  · cases r1; cases r2
    have q := outR.ok (R := rE K G) h em .bl
    exact ⟨rfl, by rwa [show decide (V.str _ = V.str _) = decide (_ = _) from decide_eq_decide.mpr ⟨fun z => V.str.inj z, fun z => by rw [z]⟩]⟩
  · exact h.elim
end
/-! steps -/
section
variable {b m : MSt} {ρ : Rho} {S : Sto} {d : D} {e : Ex} {c : Xc} {hs r : List (List (Xc × Bool) × MSt)} {l : List (Xc × Bool)}
theorem r_raise_ : sRaise c ρ S = .xc ⟨c, none⟩ ρ S := rfl
def kTry (r : SR) (hs : List (List (Xc × Bool) × MSt)) : SR := match r with
  | .xc e ρ' S' => hGo hs e ρ' S'
  | r => r
theorem r_try : sTry b hs ρ S = kTry (b ρ S) hs := by unfold sTry kTry; rfl
theorem kTry_nx : kTry (.nx ρ S) hs = .nx ρ S := rfl
theorem kTry_rt : kTry (.rt d S) hs = .rt d S := rfl
theorem kTry_xc : kTry (.xc e ρ S) hs = hGo hs e ρ S := rfl
def kHd (o : Option Bool) (m : MSt) (r : List (List (Xc × Bool) × MSt)) (e : Ex) (ρ : Rho) (S : Sto) : SR := match o with
  | some true => noXS (m ρ S)
  | some false => hGo r e ρ S
  | none => .stuck
theorem r_hGo : hGo ((l, m) :: r) e ρ S = kHd (l.lookup e.c) m r e ρ S := by unfold kHd; rw [hGo] <;> rfl
theorem r_hGo0 : hGo [] e ρ S = .xc e ρ S := rfl
theorem kHd_t : kHd (some true) m r e ρ S = noXS (m ρ S) := rfl
theorem kHd_f : kHd (some false) m r e ρ S = hGo r e ρ S := rfl
theorem noXS_nx : noXS (.nx ρ S) = .nx ρ S := rfl
theorem noXS_rt : noXS (.rt d S) = .rt d S := rfl
theorem xlk_yes {t : Bool} {l : List (Xc × Bool)} : List.lookup c ((c, t) :: l) = some t := by simp [List.lookup]
theorem xlk_no {c' : Xc} {t : Bool} {l : List (Xc × Bool)} (h : c ≠ c') : List.lookup c ((c', t) :: l) = List.lookup c l := by
  have : (c == c') = false := by simpa using h
  simp [List.lookup, this]
theorem r_eqSS {x y : Str} : eqSS (.str x) (.str y) S = .ok (.bl (decide (x = y))) S := rfl
end
/-! a text among texts -/
theorem inS1f {x a0 : Str} {S : Sto} : inQ false (.str x) (.vl [.str a0]) S = .ok (.bl (decide (a0 = x))) S := by
  unfold inQ
  rw [items_vl]
  simp [flatD, inFlat, eqFlat, BEq.beq, Bool.or_assoc, Bool.and_assoc]
theorem inS1t {x a0 : Str} {S : Sto} : inQ true (.str x) (.vl [.str a0]) S = .ok (.bl (!(decide (a0 = x)))) S := by
  unfold inQ
  rw [items_vl]
  simp [flatD, inFlat, eqFlat, BEq.beq, Bool.or_assoc, Bool.and_assoc]
theorem inS2f {x a0 a1 : Str} {S : Sto} : inQ false (.str x) (.vl [.str a0, .str a1]) S = .ok (.bl (decide (a0 = x) || decide (a1 = x))) S := by
  unfold inQ
  rw [items_vl]
  simp [flatD, inFlat, eqFlat, BEq.beq, Bool.or_assoc, Bool.and_assoc]
theorem inS2t {x a0 a1 : Str} {S : Sto} : inQ true (.str x) (.vl [.str a0, .str a1]) S = .ok (.bl (!(decide (a0 = x) || decide (a1 = x)))) S := by
  unfold inQ
  rw [items_vl]
  simp [flatD, inFlat, eqFlat, BEq.beq, Bool.or_assoc, Bool.and_assoc]
theorem inS3f {x a0 a1 a2 : Str} {S : Sto} : inQ false (.str x) (.vl [.str a0, .str a1, .str a2]) S = .ok (.bl (decide (a0 = x) || decide (a1 = x) || decide (a2 = x))) S := by
  unfold inQ
  rw [items_vl]
  simp [flatD, inFlat, eqFlat, BEq.beq, Bool.or_assoc, Bool.and_assoc]
theorem inS3t {x a0 a1 a2 : Str} {S : Sto} : inQ true (.str x) (.vl [.str a0, .str a1, .str a2]) S = .ok (.bl (!(decide (a0 = x) || decide (a1 = x) || decide (a2 = x)))) S := by
  unfold inQ
  rw [items_vl]
  simp [flatD, inFlat, eqFlat, BEq.beq, Bool.or_assoc, Bool.and_assoc]
theorem inS4f {x a0 a1 a2 a3 : Str} {S : Sto} : inQ false (.str x) (.vl [.str a0, .str a1, .str a2, .str a3]) S = .ok (.bl (decide (a0 = x) || decide (a1 = x) || decide (a2 = x) || decide (a3 = x))) S := by
  unfold inQ
  rw [items_vl]
  simp [flatD, inFlat, eqFlat, BEq.beq, Bool.or_assoc, Bool.and_assoc]
theorem inS4t {x a0 a1 a2 a3 : Str} {S : Sto} : inQ true (.str x) (.vl [.str a0, .str a1, .str a2, .str a3]) S = .ok (.bl (!(decide (a0 = x) || decide (a1 = x) || decide (a2 = x) || decide (a3 = x)))) S := by
  unfold inQ
  rw [items_vl]
  simp [flatD, inFlat, eqFlat, BEq.beq, Bool.or_assoc, Bool.and_assoc]
theorem inS5f {x a0 a1 a2 a3 a4 : Str} {S : Sto} : inQ false (.str x) (.vl [.str a0, .str a1, .str a2, .str a3, .str a4]) S = .ok (.bl (decide (a0 = x) || decide (a1 = x) || decide (a2 = x) || decide (a3 = x) || decide (a4 = x))) S := by
  unfold inQ
  rw [items_vl]
  simp [flatD, inFlat, eqFlat, BEq.beq, Bool.or_assoc, Bool.and_assoc]
theorem inS5t {x a0 a1 a2 a3 a4 : Str} {S : Sto} : inQ true (.str x) (.vl [.str a0, .str a1, .str a2, .str a3, .str a4]) S = .ok (.bl (!(decide (a0 = x) || decide (a1 = x) || decide (a2 = x) || decide (a3 = x) || decide (a4 = x)))) S := by
  unfold inQ
  rw [items_vl]
  simp [flatD, inFlat, eqFlat, BEq.beq, Bool.or_assoc, Bool.and_assoc]
theorem inS6f {x a0 a1 a2 a3 a4 a5 : Str} {S : Sto} : inQ false (.str x) (.vl [.str a0, .str a1, .str a2, .str a3, .str a4, .str a5]) S = .ok (.bl (decide (a0 = x) || decide (a1 = x) || decide (a2 = x) || decide (a3 = x) || decide (a4 = x) || decide (a5 = x))) S := by
  unfold inQ
  rw [items_vl]
  simp [flatD, inFlat, eqFlat, BEq.beq, Bool.or_assoc, Bool.and_assoc]
theorem inS6t {x a0 a1 a2 a3 a4 a5 : Str} {S : Sto} : inQ true (.str x) (.vl [.str a0, .str a1, .str a2, .str a3, .str a4, .str a5]) S = .ok (.bl (!(decide (a0 = x) || decide (a1 = x) || decide (a2 = x) || decide (a3 = x) || decide (a4 = x) || decide (a5 = x)))) S := by
  unfold inQ
  rw [items_vl]
  simp [flatD, inFlat, eqFlat, BEq.beq, Bool.or_assoc, Bool.and_assoc]
/-! data among data -/
section
variable {X : Cx} {G : Ga} {W : WX} {k : Nat}
def rInDn (K : PySem.W.Frag) (neg : Bool) : R2 := match neg with
  | false => rInD K
  | true => rNotInD K
def inDp (neg : Bool) (x y : D) (S : Sto) : Res D := match pd S 8 x, pd S 8 y with
  | some d, some (.list ds) => if SeqAt.shaped d = true ∧ SeqAt.shaped (.list ds) = true then .ok (.bl (if neg = true then !(ds.any fun z => PyData.eqv z d) else ds.any fun z => PyData.eqv z d)) S else .stuck
  | _, _ => .stuck
theorem op_inDp (d : DX X G W k) : OpR X (compareOp .In) (rInDn X.K false) := op_inD (by have := d.hr.un; omega)
theorem op_notInDp (d : DX X G W k) : OpR X (compareOp .NotIn) (rInDn X.K true) := op_notInD (by have := d.hr.un; omega)
theorem s_inDp {K : PySem.W.Frag} {neg : Bool} : OpS K G W (inDp neg) (rInDn K neg) := by
  intro φ S σ H d1 d2 v1 v2 Q em r1 r2 h
  unfold inDp at h
  split at h
  · rename_i d ds e1 e2
    split at h
    · rename_i hs
      have q := outR.ok (R := rE K G) h em .bl
      cases neg with
      | false => exact ⟨d, ds, pd_dp em 8 _ _ _ r1 e1, pd_dp em 8 _ _ _ r2 e2, hs.1, hs.2, q⟩
      | true => exact ⟨d, ds, pd_dp em 8 _ _ _ r1 e1, pd_dp em 8 _ _ _ r2 e2, hs.1, hs.2, q⟩
    · exact h.elim
  · exact h.elim
end
theorem pyAll_map : ∀ {ds : List D}, pyAll ds = ds.map D.py
  | [] => rfl
  | d :: ds => by rw [pyAll, pyAll_map, List.map_cons]
theorem inDp_dat {x : D} {ys : List D} {S : Sto} [Decidable (x ∈ ys)] (hx : x.dat = true) (hy : datAll ys = true) (dx : x.dep ≤ 8) (dy : depAll ys ≤ 7) : inDp false x (.vl ys) S = .ok (.bl (decide (x ∈ ys))) S := by
  have px := dat_pd (S := S) hx dx
  have hv : (D.vl ys).dat = true := by rw [dat_vl]; exact hy
  have py := dat_pd (S := S) hv (n := 8) (by rw [dep_vl]; omega)
  have e : (D.vl ys).py = .list (pyAll ys) := by simp only [D.py]
  rw [e] at py
  have s1 := shaped_pd px (dat_lay hx).1
  have s2 := shaped_pd py (by have := (dat_lay hv).1; rw [e] at this; exact this)
  unfold inDp
  rw [px, py]
  dsimp only
  rw [if_pos ⟨s1, s2⟩]
  have : (pyAll ys).any (fun z => PyData.eqv z x.py) = decide (x ∈ ys) := by
    rw [pyAll_map, List.any_map]
    by_cases h : x ∈ ys
    · rw [decide_eq_true h]
      exact List.any_eq_true.mpr ⟨x, h, eqv_refl (dat_lay hx).1⟩
    · rw [decide_eq_false h]
      refine List.any_eq_false.mpr fun z hz q => h ?_
      have hzd := datAll_mem.mp hy z hz
      rw [← py_inj hzd hx (eqv_eq (dat_lay hzd).2 (dat_lay hx).2 q)]
      exact hz
  rw [this]
  rfl
/-! -x -/
theorem r_op1 {f : D → Sto → Res D} {a : MEx} {ρ : Rho} {S : Sto} : mOp1 f a ρ S = (a ρ S).bind f := rfl
theorem neg_int {i : Int} {S : Sto} : negD (.int i) S = .ok (.int (-i)) S := rfl
end MP

set_option Elab.async false
set_option linter.all false
set_option maxRecDepth 100000
set_option maxHeartbeats 4000000
namespace MP
open PySem L2 PyProof.Rows
/-! ### tuples with dicts in them that are equal, value by value -/
inductive EqV (K : PySem.W.Frag) (H : Hp) : Nat → V → V → Prop
  | dat {n : Nat} {x y : V} {d e : PyData} : Dp K H x d → Dp K H y e → d.canLay0 = true → e.canLay0 = true → d.depth ≤ 40 → PyData.eqv d e = true → EqV K H n x y
  | dct {n : Nat} {a b : Addr} {ks ls : List (Key × V)} (f : Key × V → V) : H a = some (.dK ks) → H b = some (.dK ls) → ks.length = ls.length → (∀ p ∈ ks, valV ls p.1 = some (f p)) → (∀ p ∈ ks, EqV K H n p.2 (f p)) → EqV K H (n + 1) (.ref a) (.ref b)
  | tup {n : Nat} {a b : Addr} {xs ys : List V} : SqT K H a xs → SqT K H b ys → xs.length = ys.length → (∀ (j : Nat) x y, xs[j]? = some x → ys[j]? = some y → EqV K H n x y) → EqV K H (n + 1) (.ref a) (.ref b)
section
variable {X : Cx} {G : Ga} {W : WX} {k : Nat}
theorem eqv_tree {pins : List (Addr × Obj)} {σ : L2.St} {H : Hp} {s : Shared} (I : Inv X pins σ H s) {n : Nat} {x y : V} (h : EqV X.K H n x y) : ∀ {v u : Value}, RelV x v → RelV y u → PySem.W.EqTree X.prog X.w s (41 + n) v u true := by
  induction h with
  | @dat n x y d e hd he sd se dd eq =>
    intro v u r1 r2
    refine .leaf fun A hu => ?_
    obtain ⟨as, q1⟩ := Dp.reads I d x v hd r1
    obtain ⟨bs, q2⟩ := Dp.reads I e y u he r2
    have ea := SeqAt.eqAt_reads d e A s v u as bs q1 q2 sd se (by
      have := Nat.min_le_left d.depth e.depth
      omega)
    rw [eq] at ea
    exact ea
  | @dct n a b ks ls f ea eb hl hf _ ih =>
    intro v u r1 r2
    obtain rfl : v = Value.ref a := r1
    obtain rfl : u = Value.ref b := r2
    obtain ⟨_, ya, va, ra, da⟩ := (show ObjOk X.prog X.w H s.heap a (.dK ks) from I.hok a _ ea)
    obtain ⟨_, yb, vb, rb, db⟩ := (show ObjOk X.prog X.w H s.heap b (.dK ls) from I.hok b _ eb)
    by_cases hab : a = b
    · subst hab; exact .same
    have la : ks.length = va.length := ra.length
    have lb : ls.length = vb.length := rb.length
    have mem : ∀ (k : Key) v, (k, v) ∈ va → ∃ p ∈ ks, p.1 = k ∧ RelV p.2 v := by
      have gen : ∀ {ks : List (Key × V)} {va : List (Key × Value)}, KV ks va → ∀ (k : Key) v, (k, v) ∈ va → ∃ p ∈ ks, p.1 = k ∧ RelV p.2 v := by
        intro ks va r
        unfold KV at r
        induction r with
        | nil => intro k v hm; cases hm
        | @cons p q ps qs h t ih =>
          intro k v hm
          rcases List.mem_cons.mp hm with e | e
          · refine ⟨p, List.mem_cons_self, ?_, ?_⟩
            · rw [h.1, ← e]
            · have := h.2; rw [← e] at this; exact this
          · obtain ⟨p', h1, h2⟩ := ih k v e
            exact ⟨p', List.mem_cons_of_mem _ h1, h2⟩
      exact gen ra
    have at_ : ∀ p ∈ ks, ∃ y, valueAt vb p.1 = some y ∧ RelV (f p) y := fun p hp => by
      have rr : RelO (some (f p)) (valueAt vb p.1) := by rw [← hf p hp]; exact rb.val p.1
      exact rr.some_of
    have t := PySem.W.EqTree.dicts (prog := X.prog) (w := X.w) (s := s) (n := 41 + n) (knd := mixKind X.prog X.w) (e := fun _ => true) hab ya yb da db fun k v y hm hv => by
      obtain ⟨p, hp, rfl, rv⟩ := mem k v hm
      obtain ⟨y', e1, ry⟩ := at_ p hp
      rw [e1] at hv
      cases hv
      exact ih p hp rv ry
    have e1 : (va.length == vb.length && va.all fun p => (valueAt vb p.1).isSome && true) = true := by
      rw [← la, ← lb, hl, beq_self_eq_true, Bool.true_and]
      refine List.all_eq_true.mpr fun q hq => ?_
      obtain ⟨k, v⟩ := q
      obtain ⟨p, hp, rfl, _⟩ := mem k v hq
      obtain ⟨y', e1, _⟩ := at_ p hp
      show ((valueAt vb p.1).isSome && true) = true
      rw [e1]
      rfl
    rw [e1] at t
    exact t
  | @tup n a b xs ys ha hb hl _ ih =>
    intro v u r1 r2
    obtain rfl : v = Value.ref a := r1
    obtain rfl : u = Value.ref b := r2
    by_cases hab : a = b
    · subst hab; exact .same
    obtain ⟨is1, v1, t1, _⟩ := I.tuple ha
    obtain ⟨is2, v2, t2, _⟩ := I.tuple hb
    have l1 := v1.length
    have l2 := v2.length
    have t := PySem.W.EqTree.tuples (prog := X.prog) (w := X.w) (s := s) (n := 41 + n) (e := fun _ => true) hab t1 t2 fun j h1 h2 => by
      have h1' : j < is1.length := by simpa using h1
      have h2' : j < is2.length := by simpa using h2
      obtain ⟨z1, e1, q1⟩ := v1.get (i := j) (x := xs[j]) (List.getElem?_eq_getElem (by omega))
      obtain ⟨z2, e2, q2⟩ := v2.get (i := j) (x := ys[j]) (List.getElem?_eq_getElem (by omega))
      have f1 : is1.toArray[j] = z1 := by
        have := (List.getElem?_eq_some_iff.mp e1).2
        simpa using this
      have f2 : is2.toArray[j] = z2 := by
        have := (List.getElem?_eq_some_iff.mp e2).2
        simpa using this
      rw [f1, f2]
      exact ih j _ _ (List.getElem?_eq_getElem (by omega)) (List.getElem?_eq_getElem (by omega)) q1 q2
    have e1 : ((List.range (min is1.toArray.size is2.toArray.size)).all (fun _ => true) && is1.toArray.size == is2.toArray.size) = true := by
      have : is1.toArray.size = is2.toArray.size := by simp; omega
      rw [this, beq_self_eq_true, Bool.and_true]
      exact List.all_eq_true.mpr fun _ _ => rfl
    rw [e1] at t
    exact t
def rEqX (K : PySem.W.Frag) : R2 := fun x y H Q => ∃ a b xs ys, x = .ref a ∧ y = .ref b ∧ SqT K H a xs ∧ SqT K H b ys ∧ xs.length = ys.length ∧ (∀ (j : Nat) x y, xs[j]? = some x → ys[j]? = some y → EqV K H 3 x y) ∧ Q (.bl true) H
theorem op_eqX (d : DX X G W k) : OpR X (compareOp .Eq) (rEqX X.K) := by
  intro pins s σ H x y v u Q I rx ry h
  obtain ⟨a, b, xs, ys, rfl, rfl, ha, hb, hl, he, q⟩ := h
  obtain rfl : v = Value.ref a := rx
  obtain rfl : u = Value.ref b := ry
  obtain ⟨is1, v1, t1, _⟩ := I.tuple ha
  obtain ⟨is2, v2, t2, _⟩ := I.tuple hb
  have l1 := v1.length
  have l2 := v2.length
  have hu := d.hr.un
  refine PySem.W.eq_tuplesT (n := 44) (e := fun _ => true) t1 t2 (fun j h1 h2 => ?_) (by omega) ?_
  · have h1' : j < is1.length := by simpa using h1
    have h2' : j < is2.length := by simpa using h2
    obtain ⟨z1, e1, q1⟩ := v1.get (i := j) (x := xs[j]) (List.getElem?_eq_getElem (by omega))
    obtain ⟨z2, e2, q2⟩ := v2.get (i := j) (x := ys[j]) (List.getElem?_eq_getElem (by omega))
    have f1 : is1.toArray[j] = z1 := by
      have := (List.getElem?_eq_some_iff.mp e1).2
      simpa using this
    have f2 : is2.toArray[j] = z2 := by
      have := (List.getElem?_eq_some_iff.mp e2).2
      simpa using this
    rw [f1, f2]
    exact eqv_tree I (n := 3) (he j _ _ (List.getElem?_eq_getElem (by omega)) (List.getElem?_eq_getElem (by omega))) q1 q2
  · have e1 : ((List.range (min is1.toArray.size is2.toArray.size)).all (fun _ => true) && is1.toArray.size == is2.toArray.size) = true := by
      have : is1.toArray.size = is2.toArray.size := by simp; omega
      rw [this, beq_self_eq_true, Bool.and_true]
      exact List.all_eq_true.mpr fun _ _ => rfl
    rw [e1]
    exact ⟨.bl true, H, I, rfl, q⟩
def eqE (S : Sto) : Nat → D → D → Bool
  | 0, x, y => eqB S x y
  | n + 1, x, y => eqB S x y || (match dctU S x, dctU S y with
    | some ks, some ls => decide (ks.length = ls.length) && ks.all fun kv => match valD ls kv.1 with
      | some d => eqE S n kv.2 d
      | none => false
    | _, _ => false)
def eqX (x y : D) (S : Sto) : Res D := match x, y with
  | .tup xs, .tup ys => if xs.length = ys.length ∧ (xs.zip ys).all (fun p => eqE S 3 p.1 p.2) = true then .ok (.bl true) S else .stuck
  | _, _ => .stuck
theorem eqB_ok {K : PySem.W.Frag} {φ : List Addr} {S : Sto} {H : Hp} (em : Emb K G φ S H) {n : Nat} {x y : D} {v u : V} (r1 : RV K G H φ x v) (r2 : RV K G H φ y u) (h : eqB S x y = true) : EqV K H n v u := by
  unfold eqB at h
  split at h
  · rename_i p q e1 e2
    simp only [Bool.and_eq_true, decide_eq_true_eq] at h
    exact .dat (pd_dp em 8 _ _ _ r1 e1) (pd_dp em 8 _ _ _ r2 e2) h.1.1.1 h.1.1.2 h.1.2 h.2
  · cases h
open Classical in
theorem eqE_ok {K : PySem.W.Frag} {φ : List Addr} {S : Sto} {H : Hp} (em : Emb K G φ S H) : ∀ (n : Nat) {x y : D} {v u : V}, RV K G H φ x v → RV K G H φ y u → eqE S n x y = true → EqV K H n v u
  | 0, _, _, _, _, r1, r2, h => eqB_ok em r1 r2 h
  | n + 1, x, y, v, u, r1, r2, h => by
    unfold eqE at h
    rcases (Bool.or_eq_true _ _).mp h with h | h
    · exact eqB_ok em r1 r2 h
    · split at h
      · rename_i ks ls e1 e2
        obtain ⟨hl, ha⟩ := (Bool.and_eq_true _ _).mp h
        obtain ⟨p1, vs, rfl, h1, k1⟩ := dctU_ok em r1 e1
        obtain ⟨p2, us, rfl, h2, k2⟩ := dctU_ok em r2 e2
        have key : ∀ p ∈ vs, ∃ w, valV us p.1 = some w ∧ EqV K H n p.2 w := fun p hp => by
          obtain ⟨kv, m1, m2, m3⟩ := k1.mem p hp
          have q := List.all_eq_true.mp ha kv m1
          split at q
          · rename_i d ed
            obtain ⟨w, w1, w2⟩ := (k2.val kv.1).1 d ed
            exact ⟨w, by rw [← m2]; exact w1, eqE_ok em n m3 w2 q⟩
          · cases q
        exact .dct (fun p => if hp : p ∈ vs then (key p hp).choose else .non) h1 h2 (by rw [← k1.length, ← k2.length]; exact of_decide_eq_true hl) (fun p hp => by rw [dif_pos hp]; exact (key p hp).choose_spec.1) (fun p hp => by rw [dif_pos hp]; exact (key p hp).choose_spec.2)
      · cases h
theorem s_eqX {K : PySem.W.Frag} : OpS K G W eqX (rEqX K) := by
  intro φ S σ H d1 d2 v1 v2 Q em r1 r2 h
  unfold eqX at h
  split at h
  · split at h
    · rename_i xs ys hs
      have q := outR.ok (R := rE K G) h em .bl
      cases r1 with
      | tup s1 rs1 =>
        cases r2 with
        | tup s2 rs2 =>
          refine ⟨_, _, _, _, rfl, rfl, s1, s2, by rw [← RVs.length rs1, ← RVs.length rs2]; exact hs.1, fun j x y ex ey => ?_, q⟩
          have lx := (List.getElem?_eq_some_iff.mp ex).1
          rw [← RVs.length rs1] at lx
          have ly := (List.getElem?_eq_some_iff.mp ey).1
          rw [← RVs.length rs2] at ly
          obtain ⟨x', e1, q1⟩ := RVs.get rs1 (List.getElem?_eq_getElem lx)
          obtain ⟨y', e2, q2⟩ := RVs.get rs2 (List.getElem?_eq_getElem ly)
          rw [ex] at e1; cases e1
          rw [ey] at e2; cases e2
          refine eqE_ok em 3 q1 q2 ?_
          exact List.all_eq_true.mp hs.2 (xs[j], ys[j]) (List.mem_iff_getElem?.mpr ⟨j, by rw [List.getElem?_zip_eq_some]; exact ⟨List.getElem?_eq_getElem lx, List.getElem?_eq_getElem ly⟩⟩)
    · exact h.elim
  · exact h.elim
end
end MP

set_option Elab.async false
set_option linter.all false
set_option maxRecDepth 100000
set_option maxHeartbeats 4000000
namespace MP
open PySem L2 PyProof.Rows
section
variable {X : Cx} {G : Ga} {W : WX} {k : Nat}
/-! ### all, any of a list of truths -/
def blsOf : List D → Option (List Bool)
  | [] => some []
  | .bl b :: r => (blsOf r).map (b :: ·)
  | _ => none
theorem blsOf_map : ∀ bs : List Bool, blsOf (bs.map D.bl) = some bs
  | [] => rfl
  | b :: r => by simp [blsOf, blsOf_map r]
theorem blsOf_ok : ∀ {xs : List D} {bs : List Bool}, blsOf xs = some bs → xs = bs.map D.bl
  | [], bs, h => by cases h; rfl
  | .bl b :: r, bs, h => by
    simp only [blsOf] at h
    obtain ⟨cs, hc, rfl⟩ := Option.map_eq_some_iff.mp h
    rw [blsOf_ok hc]; rfl
theorem rvs_bls {K : PySem.W.Frag} {H : Hp} {φ : List Addr} : ∀ {bs : List Bool} {vs : List V}, RVs K G H φ (bs.map D.bl) vs → vs = bs.map V.bl
  | [], _, .nil => rfl
  | b :: r, _, .cons a t => by
    cases a
    rw [rvs_bls t]; rfl
def blO (f : List Bool → Bool) (o : Option (List D)) (S : Sto) : Res D := match o with
  | some xs => match blsOf xs with
    | some bs => .ok (.bl (f bs)) S
    | none => .stuck
  | none => .stuck
def cAll (ds : List D) (S : Sto) : Res D := match ds with
  | [d] => blO (·.all id) (lstO S d) S
  | _ => .stuck
def cAny (ds : List D) (S : Sto) : Res D := match ds with
  | [d] => blO (·.any id) (lstO S d) S
  | _ => .stuck
theorem s_all {K : PySem.W.Frag} : CallS K G W cAll (rAll K) := by
  intro φ S σ H ds vs Q em r h
  unfold cAll at h
  split at h
  · rename_i d
    cases r with
    | @cons _ v _ _ a b =>
      cases b
      unfold blO at h
      split at h
      · rename_i xs es
        split at h
        · rename_i bs e
          obtain ⟨p, ws, rfl, sq, rv⟩ := lst_ok em a es
          rw [blsOf_ok e] at rv
          rw [rvs_bls rv] at sq
          exact ⟨p, bs, rfl, sq, outR.ok (R := rE K G) h em .bl⟩
        · exact h.elim
      · exact h.elim
  · exact h.elim
theorem s_any {K : PySem.W.Frag} : CallS K G W cAny (rAny K) := by
  intro φ S σ H ds vs Q em r h
  unfold cAny at h
  split at h
  · rename_i d
    cases r with
    | @cons _ v _ _ a b =>
      cases b
      unfold blO at h
      split at h
      · rename_i xs es
        split at h
        · rename_i bs e
          obtain ⟨p, ws, rfl, sq, rv⟩ := lst_ok em a es
          rw [blsOf_ok e] at rv
          rw [rvs_bls rv] at sq
          exact ⟨p, bs, rfl, sq, outR.ok (R := rE K G) h em .bl⟩
        · exact h.elim
      · exact h.elim
  · exact h.elim
/-! ### a dict display of texts -/
def sKV (kvs : List (Str × Str)) : List (Key × D) := kvs.map fun p => (.inr p.1, .str p.2)
def mDctS (kvs : List (Str × Str)) : MEx := fun _ S => .ok (.loc S.length) (S ++ [.dct false (sKV kvs)])
theorem pairs_const {σ : L2.St} {Q : List (V × V) → Hp → Prop} : ∀ {kvs : List (Str × Str)} {H : Hp}, Q (kvs.map fun p => (V.str p.1, V.str p.2)) H → tPairs (kvs.map fun p => (tC (.str p.1), tC (.str p.2))) σ H Q
  | [], _, h => h
  | _ :: _, _, h => pairs_const (Q := fun ps H3 => Q (_ :: ps) H3) h
theorem upd_upd {H : Hp} {p : Addr} {a b : HO} : upd (upd H p a) p b = upd H p b := by
  funext q
  unfold upd
  split <;> rfl
theorem merge_nd : ∀ {more acc : List (Key × V)}, (∀ p ∈ more, valV acc p.1 = none) → more.Pairwise (fun a b => a.1 ≠ b.1) → mergeK acc more = acc ++ more
  | [], acc, _, _ => by simp [mergeK]
  | p :: r, acc, h, nd => by
    have h1 := putK_new p.2 (h p List.mem_cons_self)
    show mergeK (putK acc p.1 p.2) r = _
    rw [h1]
    rw [List.pairwise_cons] at nd
    rw [merge_nd (fun q hq => ?_) nd.2, List.append_assoc]
    · rfl
    · rw [valV_snoc _ _ _ _ (h p List.mem_cons_self), if_neg (fun z => nd.1 q hq z.symm)]
      exact h q (List.mem_cons_of_mem _ hq)
theorem d_dctS {keys : List (Option Expr)} {values : List Expr} {pos : Pos} (kvs : List (Str × Str)) (h : PPs X pos keys values (kvs.map fun p => (tC (.str p.1), tC (.str p.2)))) (hall : keys.all (·.isSome) = true := by rfl) (hl : keys.length = values.length := by rfl)
    (h0 : keys ≠ [] := by exact List.cons_ne_nil _ _) (h15 : keys.length ≤ 15 := by decide) (hk : kvs.length ≤ 15 := by decide) (nd : kvs.Pairwise (fun a b => a.1 ≠ b.1) := by decide) : PE X (.Dict keys values pos) (wpE X.K G W (mDctS kvs)) := by
  refine pe_conv (pe_disp h hall hl h0 h15) ?_
  rintro σ H Q ⟨φ, ρ, S, em, rs, h⟩ p hp
  apply pairs_const
  refine ⟨upd_same, kvs.map fun q => ((.inr q.1 : Key), V.str q.2), by rw [List.map_map]; rfl, by rw [List.length_map]; exact hk, ?_⟩
  rw [upd_upd, merge_nd (acc := []) (fun _ _ => rfl) (by rw [List.pairwise_map]; exact nd.imp fun h z => h (Sum.inr.inj z)), List.nil_append]
  have rk : ∀ (l : List (Str × Str)) (H' : Hp) (φ' : List Addr), RKs X.K G H' φ' id (sKV l) (l.map fun q => ((.inr q.1 : Key), V.str q.2)) := by
    intro l H' φ'
    induction l with
    | nil => exact .nil
    | cons a r ih => exact .cons .str ih
  refine h (φ ++ [p]) (.ref p) _ (.new hp) (em.new hp (.dct upd_same (rk _ _ _))) (.loc ?_)
  rw [← em.len]
  simp
/-! ### a dict of the text's top, texts to whole numbers -/
def kvI (kvs : List (Str × Int)) (x : Str) : Option Int := (kvs.find? fun p => decide (p.1 = x)).map (·.2)
structure DcT (P : Program) (w : World) (K : PySem.W.Frag) (mg : Str → Option Value) (x : Str) (kvs : List (Str × Int)) : Prop where
  ex : ∃ a, mg x = some (.ref a) ∧ (a == sysModules) = false ∧ ∃ f : Str → Option Value, (∀ h, K.In h → h.MapOf (strKind P w) a f) ∧ ∀ z, (f z).isSome = (kvI kvs z).isSome ∧ ∀ i, kvI kvs z = some i → ∃ t, f z = some (.int i t)
def kIn (neg : Bool) (kvs : List (Str × Int)) (d : D) (S : Sto) : Res D := match d with
  | .str z => .ok (.bl (if neg = true then !(kvI kvs z).isSome else (kvI kvs z).isSome)) S
  | _ => .stuck
def kGet (kvs : List (Str × Int)) (d : D) (S : Sto) : Res D := match d with
  | .str z => match kvI kvs z with
    | some i => .ok (.int i) S
    | none => .stuck
  | _ => .stuck
def rKin (neg : Bool) (a : Addr) (kvs : List (Str × Int)) : R2 := fun v u H Q => ∃ z, v = .str z ∧ u = .ref a ∧ Q (.bl (if neg = true then !(kvI kvs z).isSome else (kvI kvs z).isSome)) H
theorem kin_conv {neg : Bool} {a : Addr} {kvs : List (Str × Int)} {mi : MEx} (σ : L2.St) (H : Hp) (Q : VK) (h : wpE X.K G W (mOp1 (kIn neg kvs) mi) σ H Q) : tOp (rKin neg a kvs) (wpE X.K G W mi) (tC (.ref a)) σ H Q := by
  obtain ⟨φ, ρ, S, em, rs, h⟩ := h
  refine ⟨φ, ρ, S, em, rs, h.bind fun d S1 φ1 v H1 x em1 rv h1 => ?_⟩
  unfold kIn at h1
  split at h1
  · cases rv
    exact ⟨_, rfl, rfl, outR.ok (R := rE X.K G) h1 em1 .bl⟩
  · exact h1.elim
theorem op_knin {x : Str} {kvs : List (Str × Int)} {a : Addr} {f : Str → Option Value} (hs : (a == sysModules) = false) (hf : ∀ h, X.K.In h → h.MapOf (strKind X.prog X.w) a f) (hz : ∀ z, (f z).isSome = (kvI kvs z).isSome ∧ ∀ i, kvI kvs z = some i → ∃ t, f z = some (.int i t)) :
    OpR X (compareOp .NotIn) (rKin true a kvs) := by
  intro pins s σ H x y v u Q I rx ry h
  obtain ⟨z, rfl, rfl, q⟩ := h
  obtain ⟨t, rfl⟩ := rx
  obtain rfl : u = Value.ref a := ry
  refine wpAny_notIn_of (strKind_is X.prog X.w z t) hs (hf _ I.kIn) ⟨.bl (!(f z).isSome), H, I.tok _, rfl, ?_⟩
  rw [(hz z).1]
  exact q
theorem op_kin {x : Str} {kvs : List (Str × Int)} {a : Addr} {f : Str → Option Value} (hs : (a == sysModules) = false) (hf : ∀ h, X.K.In h → h.MapOf (strKind X.prog X.w) a f) (hz : ∀ z, (f z).isSome = (kvI kvs z).isSome ∧ ∀ i, kvI kvs z = some i → ∃ t, f z = some (.int i t)) :
    OpR X (compareOp .In) (rKin false a kvs) := by
  intro pins s σ H x y v u Q I rx ry h
  obtain ⟨z, rfl, rfl, q⟩ := h
  obtain ⟨t, rfl⟩ := rx
  obtain rfl : u = Value.ref a := ry
  refine wpAny_in_of (strKind_is X.prog X.w z t) hs (hf _ I.kIn) ⟨.bl (f z).isSome, H, I.tok _, rfl, ?_⟩
  rw [(hz z).1]
  exact q
section
variable {i : Expr} {mi : MEx} {x : Str} {p pos : Pos} {kvs : List (Str × Int)}
theorem d_knin (g : DcT X.prog X.w X.K X.mg x kvs) (hi : PE X i (wpE X.K G W mi)) (hg : Gl X x := by rfl) (hm : behindInMarks .NotIn (.Name x p) = false := by rfl) (hd : (x == ("__debug__" : Str)) = false := by decide) : PE X (.Compare i [.NotIn] [.Name x p] pos) (wpE X.K G W (mOp1 (kIn true kvs) mi)) := by
  obtain ⟨a, hm', hs, f, hf, hz⟩ := g.ex
  exact pe_conv (pe_cmpR (op_knin (x := x) hs hf hz) hi (pe_glob hg hm' (show RelV (.ref a) (.ref a) from rfl) hd) hm) kin_conv
theorem t_knin (g : DcT X.prog X.w X.K X.mg x kvs) (hi : PE X i (wpE X.K G W mi)) (hg : Gl X x := by rfl) (hm : behindInMarks .NotIn (.Name x p) = false := by rfl) (hd : (x == ("__debug__" : Str)) = false := by decide) : PT X (.Compare i [.NotIn] [.Name x p] pos) (wpT X.K G W (mTest (mOp1 (kIn true kvs) mi))) := by
  obtain ⟨a, hm', hs, f, hf, hz⟩ := g.ex
  exact pt_conv (pt_cmpR (op_knin (x := x) hs hf hz) hi (pe_glob hg hm' (show RelV (.ref a) (.ref a) from rfl) hd) hm) (test kin_conv)
theorem d_kin (g : DcT X.prog X.w X.K X.mg x kvs) (hi : PE X i (wpE X.K G W mi)) (hg : Gl X x := by rfl) (hm : behindInMarks .In (.Name x p) = false := by rfl) (hd : (x == ("__debug__" : Str)) = false := by decide) : PE X (.Compare i [.In] [.Name x p] pos) (wpE X.K G W (mOp1 (kIn false kvs) mi)) := by
  obtain ⟨a, hm', hs, f, hf, hz⟩ := g.ex
  exact pe_conv (pe_cmpR (op_kin (x := x) hs hf hz) hi (pe_glob hg hm' (show RelV (.ref a) (.ref a) from rfl) hd) hm) kin_conv
theorem t_kin (g : DcT X.prog X.w X.K X.mg x kvs) (hi : PE X i (wpE X.K G W mi)) (hg : Gl X x := by rfl) (hm : behindInMarks .In (.Name x p) = false := by rfl) (hd : (x == ("__debug__" : Str)) = false := by decide) : PT X (.Compare i [.In] [.Name x p] pos) (wpT X.K G W (mTest (mOp1 (kIn false kvs) mi))) := by
  obtain ⟨a, hm', hs, f, hf, hz⟩ := g.ex
  exact pt_conv (pt_cmpR (op_kin (x := x) hs hf hz) hi (pe_glob hg hm' (show RelV (.ref a) (.ref a) from rfl) hd) hm) (test kin_conv)
theorem d_kget (g : DcT X.prog X.w X.K X.mg x kvs) (hi : PE X i (wpE X.K G W mi)) (hg : Gl X x := by rfl) (hs' : PlainIx i := by exact fun _ _ => rfl) (hd : (x == ("__debug__" : Str)) = false := by decide) : PE X (.Subscript (.Name x p) i pos) (wpE X.K G W (mOp1 (kGet kvs) mi)) := by
  obtain ⟨a, hm', hs, f, hf, hz⟩ := g.ex
  have ix : IxR X (fun u v H Q => ∃ z n, u = .ref a ∧ v = .str z ∧ kvI kvs z = some n ∧ Q (.int n) H) := by
    intro value slice pins s σ H x y v u Q I rx ry h hs
    obtain ⟨z, n, rfl, rfl, e, q⟩ := h
    obtain rfl : v = Value.ref a := rx
    obtain ⟨t, rfl⟩ := ry
    obtain ⟨t2, e2⟩ := (hz z).2 n e
    have hm := hf _ I.kIn
    exact tail_any hm.typeIs slot_dict_getitem.lookup (wpAny_getItem_of (strKind_is X.prog X.w z t) hm e2 ⟨.int n, H, I.tok _, ⟨t2, rfl⟩, q⟩) hs
  refine pe_conv (pe_ix ix (pe_glob hg hm' (show RelV (.ref a) (.ref a) from rfl) hd) hi hs') ?_
  rintro σ H Q ⟨φ, ρ, S, em, rs, h⟩
  refine ⟨φ, ρ, S, em, rs, h.bind fun d S1 φ1 v H1 x em1 rv h1 => ?_⟩
  unfold kGet at h1
  split at h1
  · cases rv
    split at h1
    · rename_i n e
      exact ⟨_, n, rfl, rfl, e, outR.ok (R := rE X.K G) h1 em1 .int⟩
    · exact h1.elim
  · exact h1.elim
end
/-! the facts of the written part behind it -/
def itsI : List DictEntry → Option (List (Str × Int))
  | [] => some []
  | e :: r => match e.key, e.val with
    | .str x _, .int i _ => (itsI r).map ((x, i) :: ·)
    | _, _ => none
def dctI (K : PySem.W.Frag) (a : Addr) : Option (List (Str × Int)) := match K.lookup a with
  | some ⟨.type "dict", none, .dict es _, sl⟩ => if sl.size = 0 then itsI es.toList else none
  | _ => none
def hashI (K : PySem.W.Frag) (a : Addr) : List Int := match K.lookup a with
  | some ⟨_, _, .dict es _, _⟩ => es.toList.map (·.hash)
  | _ => []
theorem its_ok {P : Params} : ∀ {es : List DictEntry} {kvs : List (Str × Int)}, itsI es = some kvs → es.map (·.hash) = kvs.map (fun p => PyData.keyHash P p.1) → PySem.W.KeysLit P es ∧
    ∀ z, (findBy Value.isStrOf es.toArray z).isSome = (kvI kvs z).isSome ∧ ∀ i, kvI kvs z = some i → ∃ t, findBy Value.isStrOf es.toArray z = some (.int i t)
  | [], kvs, h, _ => by
    cases h
    exact ⟨trivial, fun z => ⟨rfl, fun i h => by cases h⟩⟩
  | e :: r, kvs, h, hh => by
    unfold itsI at h
    split at h
    · rename_i x t i t2 ek ev
      obtain ⟨ks, h1, rfl⟩ := Option.map_eq_some_iff.mp h
      simp only [List.map_cons, List.cons.injEq] at hh
      obtain ⟨a1, a2⟩ := its_ok h1 hh.2
      refine ⟨⟨⟨x, t, ek, hh.1⟩, a2 |> fun _ => a1⟩, fun z => ?_⟩
      have fb : findBy Value.isStrOf (e :: r).toArray z = if x = z then some (.int i t2) else findBy Value.isStrOf r.toArray z := by
        unfold findBy
        rw [List.find?_toArray, List.find?_toArray, List.find?_cons, ek]
        by_cases hx : x = z
        · subst hx
          simp [Value.isStrOf, ev]
        · have : Value.isStrOf z (.str x t) = false := by simp [Value.isStrOf]; first | exact hx | exact fun h => hx h.symm
          rw [this, if_neg hx]
      have kk : kvI ((x, i) :: ks) z = if x = z then some i else kvI ks z := by
        unfold kvI
        rw [List.find?_cons]
        by_cases hx : x = z <;> simp [hx]
      rw [fb, kk]
      by_cases hx : x = z
      · rw [if_pos hx, if_pos hx]
        exact ⟨rfl, fun j hj => by cases hj; exact ⟨t2, rfl⟩⟩
      · rw [if_neg hx, if_neg hx]
        exact a2 z
    · cases h
theorem DcT.of {P : Program} {w : World} {K : PySem.W.Frag} {mg : Str → Option Value} {x : Str} {kvs : List (Str × Int)} {a : Addr} (hm : mg x = some (.ref a)) (hs : (a == sysModules) = false) (h1 : dctI K a = some kvs) (h2 : hashI K a = kvs.map fun p => PyData.keyHash w.params p.1) : DcT P w K mg x kvs := by
  unfold dctI at h1
  split at h1
  · rename_i es n sl hl
    split at h1
    · rename_i hsl
      obtain rfl : sl = #[] := Array.eq_empty_of_size_eq_zero hsl
      unfold hashI at h2
      rw [hl] at h2
      obtain ⟨k1, k2⟩ := its_ok h1 h2
      refine ⟨a, hm, hs, _, fun h hK => PySem.W.mapOf_K hK hl k1, ?_⟩
      simpa using k2
    · cases h1
  · cases h1
end
end MP

set_option Elab.async false
set_option linter.all false
set_option maxRecDepth 100000
set_option maxHeartbeats 4000000
namespace MP
open PySem L2 PySem.Spec PyProof.Rows
/-! ### a tuple, not at all or once -/
theorem tuple_mul1 (l : Addr) (items : Array Value) (n : Nat) (dd : Option Addr) (sl : Array (Option Value)) (u : Tok) :
    Meets (Builtin.«tuple.__mul__» ⟨[.ref l, .int 1 u], []⟩) (fun _ R s => s.heap.get? l = some { cls := .type "tuple", dict := dd, data := .seq items n, slots := sl } ∧ R (.ok (.ret (Value.ref l))) s) :=
  .of_wp fun prog w A R s h => by
    obtain ⟨hp, g, d, tk, os⟩ := s
    obtain ⟨hl, h⟩ := h
    have f1 := AutoSeq1.idx_int
    wp_walk using wpAny_loadPart' hl
    exact ⟨_, rfl, h⟩
theorem tuple_mul0 (l : Addr) (items : Array Value) (n : Nat) (dd : Option Addr) (sl : Array (Option Value)) (u : Tok) (hi : items.isEmpty = false) :
    Meets (Builtin.«tuple.__mul__» ⟨[.ref l, .int 0 u], []⟩) (fun _ R s => s.heap.get? l = some { cls := .type "tuple", dict := dd, data := .seq items n, slots := sl } ∧
      R (.ok (.ret (Value.ref s.heap.objs.size))) { s with heap := s.heap.push { cls := Value.type "tuple", data := Data.seq #[] }, toks := s.toks }) :=
  .of_wp fun prog w A R s h => by
    obtain ⟨hp, g, d, tk, os⟩ := s
    obtain ⟨hl, h⟩ := h
    have f1 := AutoSeq1.idx_int
    wp_walk using wpAny_loadPart' hl
    exact ⟨_, rfl, h⟩
section
variable {X : Cx} {G : Ga} {W : WX} {k : Nat}
def rRep01 (K : PySem.W.Frag) : R2 := fun x y H Q => ∃ l xs, x = .ref l ∧ SqT K H l xs ∧ xs ≠ [] ∧ ((y = .int 1 ∧ Q (.ref l) H) ∨ (y = .int 0 ∧ ∀ p, H p = none → Q (.ref p) (upd H p (.tup []))))
theorem op_rep01 : OpR X (binaryOp .Mult) (rRep01 X.K) := by
  intro pins s σ H x y v u Q I rx ry h
  obtain ⟨l, xs, rfl, hT, hne, h⟩ := h
  cases rx
  obtain ⟨its, r, ⟨⟨cls, dd, data, sl⟩, ho, hc, n, hd⟩, hs⟩ := I.tuple hT
  simp only at hc hd
  subst hc hd
  have hle : its.length = xs.length := r.length.symm
  have hi : its.toArray.isEmpty = false := by
    cases its with
    | nil => exact absurd (List.eq_nil_of_length_eq_zero hle.symm) hne
    | cons a b => rfl
  rcases h with ⟨rfl, q⟩ | ⟨rfl, q⟩
  · obtain ⟨t, rfl⟩ := ry
    exact wpAny_binaryOp_repeat_ref (T := "tuple") (U := "int") (by decide) ⟨_, ho, rfl⟩ (fun s' => typeIs_int s' 1 t) noFill_tuple_mul F.fills_int_mul F.slot_int_rmul repeat_tuple F.slot_int_index.lookup
      (call_meets F.slot_int_rmul (typeIs_int s 1 t) F.entry_int_rmul (F.args_int_rmul_2 _ _) (int_rmul_tuple 1 t l its.toArray n dd sl)
        ⟨ho, rfl, ⟨_, ho, rfl⟩, call_meets F.slot_tuple_mul ⟨_, ho, rfl⟩ F.entry_tuple_mul (F.args_tuple_mul_2 _ _) (tuple_mul1 l its.toArray n dd sl t) ⟨ho, ⟨.ref l, H, I, rfl, q⟩⟩⟩)
  · obtain ⟨t, rfl⟩ := ry
    refine wpAny_binaryOp_repeat_ref (T := "tuple") (U := "int") (by decide) ⟨_, ho, rfl⟩ (fun s' => typeIs_int s' 0 t) noFill_tuple_mul F.fills_int_mul F.slot_int_rmul repeat_tuple F.slot_int_index.lookup
      (call_meets F.slot_int_rmul (typeIs_int s 0 t) F.entry_int_rmul (F.args_int_rmul_2 _ _) (int_rmul_tuple 0 t l its.toArray n dd sl)
        ⟨ho, rfl, ⟨_, ho, rfl⟩, call_meets F.slot_tuple_mul ⟨_, ho, rfl⟩ F.entry_tuple_mul (F.args_tuple_mul_2 _ _) (tuple_mul0 l its.toArray n dd sl t hi) ⟨ho, ?_⟩⟩)
    refine ⟨.ref s.heap.objs.size, _, I.laid (t' := s.toks) (o := .tup []) (fun b ob q => Heap.get?_push_of_some _ q) (Nat.le_refl _) ?_, rfl, q _ (I.hok.fresh (Nat.le_refl _))⟩
    exact ⟨Nat.zero_le _, [], .nil, IsTup.new _ _⟩
/-- a tuple, not at all or once -/
def mulT (x y : D) (S : Sto) : Res D := match x, y with
  | .tup (a :: xs), .int i => if i = 1 then .ok (.tup (a :: xs)) S else if i = 0 then .ok (.tup []) S else .stuck
  | _, _ => .stuck
theorem s_mulT {K : PySem.W.Frag} : OpS K G W mulT (rRep01 K) := by
  intro φ S σ H d1 d2 v1 v2 Q em r1 r2 h
  unfold mulT at h
  split at h
  · rename_i a xs i
    cases r2
    cases r1 with
    | tup s q =>
      have hne : ∀ {vs : List V}, RVs K G H φ (a :: xs) vs → vs ≠ [] := fun z e => by rw [e] at z; cases z
      split at h
      · rename_i hi
        subst hi
        exact ⟨_, _, rfl, s, hne q, .inl ⟨rfl, outR.ok (R := rE K G) h em (.tup s q)⟩⟩
      · split at h
        · rename_i hi
          subst hi
          exact ⟨_, _, rfl, s, hne q, .inr ⟨rfl, fun p hp => h φ _ _ (.other hp) (em.other hp) (.tup (.of upd_same) .nil)⟩⟩
        · exact h.elim
  · exact h.elim
theorem mulT_1 {a : D} {xs : List D} {S : Sto} : mulT (.tup (a :: xs)) (.int 1) S = .ok (.tup (a :: xs)) S := rfl
theorem mulT_0 {a : D} {xs : List D} {S : Sto} : mulT (.tup (a :: xs)) (.int 0) S = .ok (.tup []) S := rfl
end
end MP

set_option Elab.async false
set_option linter.all false
set_option maxRecDepth 100000
set_option maxHeartbeats 4000000
/-! list(reversed(list)) -/
namespace MPX
open PySem PySem.Spec PyProof.Rows
section
variable {prog : Program} {w : World} {A : Around} {E : Value → Shared → Prop} {s : Shared}
theorem wpAny_extend_rev {R : Result → Shared → Prop} (hh : A.handled = none) {it l : Addr} {items : Array Value} (hit : s.heap.IsRevIter it l ((items.size : Int) - 1)) (hl : s.heap.IsList l items) (hne : l ≠ it) (hn : items.size ≤ sizeLine) (S : Addr) (res : Value) (c₀ : Nat)
    (hS : s.heap.get? S = some { cls := .type "list", data := .seq #[] c₀ }) (hSi : S ≠ it) (hSl : S ≠ l)
    (hR : ∀ h' tk acc' c', (∀ b o, b ≠ S → b ≠ it → s.heap.get? b = some o → h'.get? b = some o) → h'.get? S = some { cls := .type "list", dict := none, data := .seq acc' c', slots := #[] } →
      ItemsOf (fun i v => items[items.size - 1 - i]? = some v) acc' items.size → R (.ok (.ret res)) { s with heap := h', toks := tk }) :
    wpAny (model prog w) A.in1 (Builtin.List.listExtendWith (.ref S) (.ref it) res)
      (fun fin s' => match fin with | .done f => R (.ok f) s' | .again c' => c'.quiet = true ∧ codeAny (model prog w) A c' R s') (fun e s' => R (.error e) s') s := by
  have W := (Walks.listRev (prog := prog) (w := w) (A := A.in1) hh it l hne items).toS
  have hSf : S ∉ [it, l] := by simp only [List.mem_cons, List.not_mem_nil, or_false, not_or]; exact ⟨hSi, hSl⟩
  have hT : s.TypeIs (.ref it) "list_reverseiterator" := hit.typeIs
  have h1 : Builtin.List.listSameRef (.ref S) (.ref it) = false := by simp [Builtin.List.listSameRef, hSi]
  unfold Builtin.List.listExtendWith
  refine wpAny_bind (wpAny_typeOf hT ?_)
  rw [if_neg (by rw [h1]; decide)]
  refine wpAny_bind (wpAny_pyIter_revIter hit ?_)
  refine wpAny_bind (wpAny_holding ?_)
  unfold Builtin.List.listLengthHint
  refine wpAny_bind (wpAny_specialOf hT RT.nolen_lri ?_)
  show wpAny _ A.in1 (specialOf (Value.ref it) (Str.ofString "__length_hint__") >>= _) _ _ _
  refine wpAny_bind (wpAny_specialOf hT RT.hint_lri ?_)
  generalize hid : ("list_reverseiterator.__length_hint__" : String) = id0
  wp_delta
  rw [show splitId id0 = some ("list_reverseiterator", "__length_hint__") from by subst hid; decide +kernel]
  subst hid
  refine wpAny_bind (wpAny_isInstance (b := true) hT (by rw [isSubtype_type]; kernel_rfl) ?_)
  refine wpAny_pure ?_
  rw [if_neg (by decide)]
  have e0 : ((items.size : Nat) : Int) - 1 - ((0 : Nat) : Int) = (items.size : Int) - 1 := by omega
  refine wpAny_pure ⟨plainId_quiet F.plain_extend_loop _, codeAny_extend_loopS W hn _ hSf _ items.size 0 _ _ _ rfl (Nat.zero_le _) ⟨Nat.zero_le _, by rw [e0]; exact hit, hl⟩ hS (ItemsOf.nil _) fun s' acc' c' hm hS' hacc => ?_⟩
  rw [Moved.eq_with hm]
  refine hR s'.heap s'.toks acc' c' (fun b ob hb hb2 e => hm.heap b ob (fun hmem => ?_) e) hS' hacc
  rcases List.mem_cons.mp hmem with e' | hmem
  · exact hb e'
  · exact hb2 (List.mem_singleton.mp hmem)
theorem wpAny_list_init_rev {R : Result → Shared → Prop} (hh : A.handled = none) {it l : Addr} {items : Array Value} (hit : s.heap.IsRevIter it l ((items.size : Int) - 1)) (hl : s.heap.IsList l items) (hne : l ≠ it) (hn : items.size ≤ sizeLine) (S : Addr)
    (hS : s.heap.get? S = some { cls := .type "list", data := .seq #[] }) (hSi : S ≠ it) (hSl : S ≠ l)
    (hR : ∀ h' tk acc' c', (∀ b o, b ≠ S → b ≠ it → s.heap.get? b = some o → h'.get? b = some o) → h'.get? S = some { cls := .type "list", dict := none, data := .seq acc' c', slots := #[] } →
      ItemsOf (fun i v => items[items.size - 1 - i]? = some v) acc' items.size → R (.ok (.ret .none)) { s with heap := h', toks := tk }) :
    wpAny (model prog w) A.in1 (Builtin.«list.__init__» ⟨[.ref S, .ref it], []⟩)
      (fun fin s' => match fin with | .done f => R (.ok f) s' | .again c' => c'.quiet = true ∧ codeAny (model prog w) A c' R s') (fun e s' => R (.error e) s') s := by
  show wpAny _ _ (do let old ← Builtin.List.listItems (.ref S); Builtin.List.listUpdate (.ref S) (fun _ => #[]); letGo old.toList.reverse; Builtin.List.listExtendWith (.ref S) (.ref it) .none) _ _ s
  refine wpAny_bind ?_
  unfold Builtin.List.listItems
  refine wpAny_bind (wpAny_seqItems hS rfl (wpAny_pure ?_))
  show wpAny _ _ (updateSeq S (fun _ => #[]) >>= fun _ => letGo (#[] : Array Value).toList.reverse >>= fun _ => Builtin.List.listExtendWith (.ref S) (.ref it) .none) _ _ s
  refine wpAny_bind (wpAny_updateSeq hS rfl ?_)
  have hS₂ := Heap.get?_update_self (Obj.mapSeq (fun _ => (#[] : Array Value))) hS rfl
  have oth : ∀ b o, b ≠ S → s.heap.get? b = some o → (s.heap.update S (Obj.mapSeq (fun _ => (#[] : Array Value)))).get? b = some o :=
    fun b o hb e => (Heap.get?_update_other _ _ (Ne.symm hb)).trans e
  refine wpAny_bind (wpAny_letGo ?_)
  have hl2 : (s.heap.update S (Obj.mapSeq (fun _ => (#[] : Array Value)))).IsList l items := by
    obtain ⟨o, ho, r⟩ := hl
    exact ⟨o, oth l o (Ne.symm hSl) ho, r⟩
  refine wpAny_extend_rev (s := { s with heap := s.heap.update S (Obj.mapSeq (fun _ => (#[] : Array Value))) }) hh (hit.at fun o e => oth it o (Ne.symm hSi) e) hl2 hne hn S .none _ hS₂ hSi hSl fun h' tk acc' c' hk hS' hacc => ?_
  exact hR h' tk acc' c' (fun b o hb hb2 e => hk b o hb hb2 (oth b o hb e)) hS' hacc
theorem call_list_rev {Q : Value → Shared → Prop} (hh : A.handled = none) {it l : Addr} {items : Array Value} (hit : s.heap.IsRevIter it l ((items.size : Int) - 1)) (hl : s.heap.IsList l items) (hne : l ≠ it) (hn : items.size ≤ sizeLine)
    (hQ : ∀ h' tk acc' c', (∀ b o, b ≠ it → s.heap.get? b = some o → h'.get? b = some o) →
      h'.get? s.heap.objs.size = some { cls := .type "list", dict := none, data := .seq acc' c', slots := #[] } → ItemsOf (fun i v => items[items.size - 1 - i]? = some v) acc' items.size → Q (.ref s.heap.objs.size) { s with heap := h', toks := tk }) :
    wpAny (model prog w) A (call (.type "list") [.ref it]) Q E s := by
  obtain ⟨oi, hoi, _⟩ := id hit
  obtain ⟨ol, hol, _⟩ := id hl
  have hSi : s.heap.objs.size ≠ it := Nat.ne_of_gt (Heap.lt_size hoi)
  have hSl : s.heap.objs.size ≠ l := Nat.ne_of_gt (Heap.lt_size hol)
  refine callType_codes (Q₁ := fun obj s₁ => obj = .ref s.heap.objs.size ∧ s₁ = { s with heap := s.heap.push { cls := .type "list", data := .seq #[] } }) F.called_list (F.typeCall_list_1 _) F.entry_list_init
    (code_list_new _ ⟨rfl, rfl⟩) fun obj s₁ h₁ => ?_
  obtain ⟨rfl, rfl⟩ := h₁
  have hS : (s.heap.push { cls := .type "list", data := .seq #[] }).get? s.heap.objs.size = some { cls := .type "list", data := .seq #[] } := Heap.get?_push_size _ rfl
  refine ⟨⟨_, hS, rfl⟩, F.args_list_init_2 _ _, wpAny_list_init_rev (A := A.in1) hh (hit.at fun o e => Heap.get?_push_of_some _ e) (hl.push _) hne hn _ hS hSi hSl fun h' tk acc' c' hk hS' hacc => ?_⟩
  exact ⟨rfl, hQ h' tk acc' c' (fun b o hb e => hk b o (Nat.ne_of_lt (Heap.lt_size e)) hb (Heap.get?_push_of_some _ e)) hS' hacc⟩
end
end MPX
namespace L2
open PySem PySem.Spec PyProof.Rows
section
variable {X : Cx}
/-- list(reversed(x)), x a list: a new list -/
def tLstRev (K : PySem.W.Frag) (te : TE) : TE := fun σ H Q => te σ H fun v H1 => ∃ (a : Addr) (xs : List V), v = .ref a ∧ SqL K H1 a xs ∧ xs.length ≤ sizeLine ∧ ∀ q, H1 q = none → Q (.ref q) (upd H1 q (.lst xs.reverse))
theorem pe_lstRev {e : Expr} {te : TE} {p p2 pos pos2 : Pos} (hc : X.calm = true) (hg : Gl X "list") (hm : X.mg "list" = none) (hg2 : Gl X "reversed") (hm2 : X.mg "reversed" = none) (he : PE X e te)
    (hs : starEach [e] X.env = (false, eval e X.env) :: starEach [] X.env := by rfl)
    (hs2 : starEach [.Call (.Name "reversed" p2) [e] [] pos2] X.env = (false, eval (.Call (.Name "reversed" p2) [e] [] pos2) X.env) :: starEach [] X.env := by rfl) :
    PE X (.Call (.Name "list" p) [.Call (.Name "reversed" p2) [e] [] pos2] [] pos) (tLstRev X.K te) := by
  refine ⟨fun pins s σ H Q I h => ?_⟩
  refine Call_ (ld_blt I hg hm boot_list (PyProof.Rows.callWith_type1 (args_cons (Call_ (ld_blt I hg2 hm2 PyProof.Rows.boot_reversed (PyProof.Rows.callWith_type1 (args_cons (thn (he.run pins s σ H _ I h) fun u s1 ⟨v, H1, I1, r1, q1⟩ => args_nil ?_) hs) hs rfl))) hs2) hs2 rfl))
  obtain ⟨a, xs, ev, hq, hxs, q⟩ := q1
  subst ev
  obtain rfl : u = Value.ref a := r1
  obtain ⟨its, rv, p', hz⟩ := I1.list hq
  refine call_reversed_list p'.isList (args_nil ?_)
  have k0 : ∀ b o, s1.heap.get? b = some o → (s1.heap.push (revObj a ((its.toArray.size : Int) - 1))).get? b = some o := fun b o e => Heap.get?_push_of_some _ e
  have I2 : Inv X pins σ H1 { s1 with heap := s1.heap.push (revObj a ((its.toArray.size : Int) - 1)) } := I1.kept (t' := s1.toks) k0
  obtain ⟨ol, hol, _⟩ := id p'.isList
  have hne : a ≠ s1.heap.objs.size := Nat.ne_of_lt (Heap.lt_size hol)
  have hsz : its.toArray.size ≤ sizeLine := by rw [List.size_toArray, ← rv.length]; exact hz
  refine MPX.call_list_rev (s := { s1 with heap := s1.heap.push (revObj a ((its.toArray.size : Int) - 1)) }) (I1.ok.hd hc) ⟨_, Heap.get?_push_size _ rfl, rfl, rfl⟩ (p'.isList.push _) hne hsz fun h' tk acc c' hk e' hi => ?_
  have hle : s1.heap.objs.size ≤ (s1.heap.push (revObj a ((its.toArray.size : Int) - 1))).objs.size := by rw [Heap.size_push]; exact Nat.le_succ _
  refine ⟨.ref (s1.heap.push (revObj a ((its.toArray.size : Int) - 1))).objs.size, upd H1 _ (.lst xs.reverse), I1.laid (t' := tk) (fun b o e => hk b o (Nat.ne_of_lt (Heap.lt_size e)) (k0 b o e)) hle (show ObjOk X.prog X.w _ _ _ (.lst xs.reverse) from ⟨by rw [List.length_reverse]; exact hz, acc.toList, c', RT.vals_rev rv hi, ?_⟩), rfl, q _ (I1.hok.fresh hle)⟩
  rw [Array.toArray_toList]
  exact e'
end
end L2
namespace MP
open PySem L2
section
variable {X : Cx} {G : Ga} {W : WX} {k : Nat}
def revD (tr : Bool) (d : D) (S : Sto) : Res D := match lstO S d with
  | some xs => if xs.length ≤ sizeLine then newL tr xs.reverse S else .stuck
  | none => .stuck
def mRev (tr : Bool) (m : MEx) : MEx := fun ρ S => (m ρ S).bind (revD tr)
theorem RVs.reverse {K : PySem.W.Frag} {H : Hp} {φ : List Addr} : ∀ {ds : List D} {vs : List V}, RVs K G H φ ds vs → RVs K G H φ ds.reverse vs.reverse
  | _, _, .nil => .nil
  | _, _, .cons a b => by rw [List.reverse_cons, List.reverse_cons]; exact RVs.append (RVs.reverse b) (.cons a .nil)
theorem d_revL {tr : Bool} {e : Expr} {m : MEx} {p p2 pos pos2 : Pos} (d : DX X G W k) (hm : X.mg "list" = none) (hm2 : X.mg "reversed" = none) (he : PE X e (wpE X.K G W m)) (hg : Gl X "list" := by rfl) (hg2 : Gl X "reversed" := by rfl)
    (hs : starEach [e] X.env = (false, eval e X.env) :: starEach [] X.env := by rfl)
    (hs2 : starEach [.Call (.Name "reversed" p2) [e] [] pos2] X.env = (false, eval (.Call (.Name "reversed" p2) [e] [] pos2) X.env) :: starEach [] X.env := by rfl) :
    PE X (.Call (.Name "list" p) [.Call (.Name "reversed" p2) [e] [] pos2] [] pos) (wpE X.K G W (mRev tr m)) := by
  refine pe_conv (pe_lstRev d.calm hg hm hg2 hm2 he hs hs2) ?_
  rintro σ H Q ⟨φ, ρ, S, em, rs, h⟩
  refine ⟨φ, ρ, S, em, rs, h.bind fun x S1 φ1 v H1 x1 em1 rv h1 => ?_⟩
  unfold revD at h1
  split at h1
  · rename_i xs e
    split at h1
    · rename_i hl
      obtain ⟨a, ws, rfl, hs, rv2⟩ := lst_ok em1 rv e
      exact ⟨a, ws, rfl, hs, by rw [← RVs.length rv2]; exact hl, fun q hq => h1.newL em1 (RVs.reverse rv2) hq⟩
    · exact h1.elim
  · exact h1.elim
theorem r_rev {tr : Bool} {m : MEx} {ρ : Rho} {S : Sto} : mRev tr m ρ S = (m ρ S).bind (revD tr) := rfl
theorem rev_vl {tr : Bool} {xs : List D} {S : Sto} (h : (xs.length ≤ sizeLine) = True) : revD tr (.vl xs) S = newL tr xs.reverse S := if_pos (by rw [h]; trivial)
/-! ### list(range(..)) -/
def rg1D (tr : Bool) (d : D) (S : Sto) : Res D := match d with
  | .int b => if -(2 ^ 62) ≤ b ∧ b ≤ 2 ^ 24 then newL tr (rngL 0 b.toNat) S else .stuck
  | _ => .stuck
def rg2D (tr : Bool) (d e : D) (S : Sto) : Res D := match d, e with
  | .int a, .int b => if -(2 ^ 62) ≤ a ∧ a < 2 ^ 62 ∧ -(2 ^ 62) ≤ b ∧ b < 2 ^ 62 ∧ (b - a).toNat ≤ 2 ^ 24 then newL tr (rngL a (b - a).toNat) S else .stuck
  | _, _ => .stuck
def mLR1 (tr : Bool) (m : MEx) : MEx := fun ρ S => (m ρ S).bind (rg1D tr)
def mLR2 (tr : Bool) (a b : MEx) : MEx := mOp2 (rg2D tr) a b
theorem rvs_rg {K : PySem.W.Frag} {H : Hp} {φ : List Addr} {a b : Int} : RVs K G H φ (rngL a (b - a).toNat) (rgV a b) := by
  unfold rngL rgV
  have : ∀ l : List Nat, RVs K G H φ (l.map fun k : Nat => D.int (a + k)) (l.map fun i => V.int (a + (i : Nat))) := fun l => by
    induction l with
    | nil => exact .nil
    | cons x r ih => exact .cons .int ih
  exact this _
theorem d_lrng1 {tr : Bool} {e : Expr} {m : MEx} {p p2 pos pos2 : Pos} (d : DX X G W k) (hm : X.mg "list" = none) (hm2 : X.mg "range" = none) (he : PE X e (wpE X.K G W m)) (hg : Gl X "list" := by rfl) (hg2 : Gl X "range" := by rfl)
    (hs : starEach [e] X.env = (false, eval e X.env) :: starEach [] X.env := by rfl)
    (hs2 : starEach [.Call (.Name "range" p2) [e] [] pos2] X.env = (false, eval (.Call (.Name "range" p2) [e] [] pos2) X.env) :: starEach [] X.env := by rfl) :
    PE X (.Call (.Name "list" p) [.Call (.Name "range" p2) [e] [] pos2] [] pos) (wpE X.K G W (mLR1 tr m)) := by
  refine pe_conv (pe_listRg d.calm hg hm (prg_1 hg2 hm2 he hs) hs2) ?_
  rintro σ H Q ⟨φ, ρ, S, em, rs, h⟩
  refine ⟨φ, ρ, S, em, rs, h.bind fun x S1 φ1 v H1 x1 em1 rv h1 => ?_⟩
  unfold rg1D at h1
  split at h1
  · rename_i b
    split at h1
    · rename_i hb
      cases rv
      have e0 : b.toNat = (b - 0).toNat := by rw [Int.sub_zero]
      rw [e0] at h1
      exact ⟨b, rfl, ⟨by decide, by decide, by omega, by omega, by omega⟩, fun q hq => h1.newL em1 rvs_rg hq⟩
    · exact h1.elim
  · exact h1.elim
theorem d_lrng2 {tr : Bool} {e f : Expr} {m n : MEx} {p p2 pos pos2 : Pos} (d : DX X G W k) (hm : X.mg "list" = none) (hm2 : X.mg "range" = none) (he : PE X e (wpE X.K G W m)) (hf : PE X f (wpE X.K G W n)) (hg : Gl X "list" := by rfl) (hg2 : Gl X "range" := by rfl)
    (na : starEach [e, f] X.env = (false, eval e X.env) :: starEach [f] X.env := by rfl) (nb : starEach [f] X.env = (false, eval f X.env) :: starEach [] X.env := by rfl) (hp : (backTo pos2 (starEach [f] X.env)).any (·.1) = false := by rfl)
    (hs2 : starEach [.Call (.Name "range" p2) [e, f] [] pos2] X.env = (false, eval (.Call (.Name "range" p2) [e, f] [] pos2) X.env) :: starEach [] X.env := by rfl) :
    PE X (.Call (.Name "list" p) [.Call (.Name "range" p2) [e, f] [] pos2] [] pos) (wpE X.K G W (mLR2 tr m n)) := by
  refine pe_conv (pe_listRg d.calm hg hm (prg_2 hg2 hm2 he hf na nb hp) hs2) ?_
  rintro σ H Q ⟨φ, ρ, S, em, rs, h⟩
  refine ⟨φ, ρ, S, em, rs, h.bind fun d1 S1 φ1 v1 H1 x1 em1 rv1 h1 => ?_⟩
  refine ⟨φ1, ρ, S1, em1, rs.ext x1, h1.bind fun d2 S2 φ2 v2 H2 x2 em2 rv2 h2 => ?_⟩
  unfold rg2D at h2
  split at h2
  · rename_i a b
    split at h2
    · rename_i hb
      cases rv1
      cases rv2
      exact ⟨a, b, rfl, rfl, hb, fun q hq => h2.newL em2 rvs_rg hq⟩
    · exact h2.elim
  · exact h2.elim
theorem r_lr1 {tr : Bool} {m : MEx} {ρ : Rho} {S : Sto} : mLR1 tr m ρ S = (m ρ S).bind (rg1D tr) := rfl
theorem r_lr2 {tr : Bool} {m n : MEx} {ρ : Rho} {S : Sto} : mLR2 tr m n ρ S = mOp2 (rg2D tr) m n ρ S := rfl
theorem lr1_ok {tr : Bool} {b : Int} {S : Sto} (h : -(2 ^ 62) ≤ b ∧ b ≤ 2 ^ 24) : rg1D tr (.int b) S = newL tr (rngL 0 b.toNat) S := if_pos h
theorem lr2_ok {tr : Bool} {a b : Int} {S : Sto} (h : -(2 ^ 62) ≤ a ∧ a < 2 ^ 62 ∧ -(2 ^ 62) ≤ b ∧ b < 2 ^ 62 ∧ (b - a).toNat ≤ 2 ^ 24) : rg2D tr (.int a) (.int b) S = newL tr (rngL a (b - a).toNat) S := if_pos h
/-! ### is True, is not True -/
open PyProof.Rows PySem.Spec in
theorem op_isB : OpR X (compareOp .Is) (fun x y H Q => ∃ b, y = .bl b ∧ ((∃ a, x = .bl a ∧ Q (.bl (a == b)) H) ∨ (x = .non ∧ Q (.bl false) H))) := by
  intro pins s σ H x y v u Q I rx ry h
  obtain ⟨b, rfl, ⟨a, rfl, q⟩ | ⟨rfl, q⟩⟩ := h
  · cases rx; cases ry
    exact is_bool (fin_bl I q rfl)
  · cases rx; cases ry
    exact wpAny_pure (fin_bl I q rfl)
open PyProof.Rows PySem.Spec in
theorem op_isNotB : OpR X (compareOp .IsNot) (fun x y H Q => ∃ b, y = .bl b ∧ ((∃ a, x = .bl a ∧ Q (.bl (!(a == b))) H) ∨ (x = .non ∧ Q (.bl true) H))) := by
  intro pins s σ H x y v u Q I rx ry h
  obtain ⟨b, rfl, ⟨a, rfl, q⟩ | ⟨rfl, q⟩⟩ := h
  · cases rx; cases ry
    exact isnot_bool (fin_bl I q rfl)
  · cases rx; cases ry
    exact wpAny_pure (fin_bl I q rfl)
def isBD (x y : D) (S : Sto) : Res D := match x, y with
  | .bl a, .bl b => .ok (.bl (a == b)) S
  | .non, .bl _ => .ok (.bl false) S
  | _, _ => .stuck
def isNotBD (x y : D) (S : Sto) : Res D := match x, y with
  | .bl a, .bl b => .ok (.bl (!(a == b))) S
  | .non, .bl _ => .ok (.bl true) S
  | _, _ => .stuck
theorem s_isB {K : PySem.W.Frag} : OpS K G W isBD (fun x y H Q => ∃ b, y = .bl b ∧ ((∃ a, x = .bl a ∧ Q (.bl (a == b)) H) ∨ (x = .non ∧ Q (.bl false) H))) := by
  intro φ S σ H d1 d2 v1 v2 Q em r1 r2 h
  unfold isBD at h
  split at h
  · cases r1; cases r2
    exact ⟨_, rfl, .inl ⟨_, rfl, outR.ok (R := rE K G) h em .bl⟩⟩
  · cases r1; cases r2
    exact ⟨_, rfl, .inr ⟨rfl, outR.ok (R := rE K G) h em .bl⟩⟩
  · exact h.elim
theorem s_isNotB {K : PySem.W.Frag} : OpS K G W isNotBD (fun x y H Q => ∃ b, y = .bl b ∧ ((∃ a, x = .bl a ∧ Q (.bl (!(a == b))) H) ∨ (x = .non ∧ Q (.bl true) H))) := by
  intro φ S σ H d1 d2 v1 v2 Q em r1 r2 h
  unfold isNotBD at h
  split at h
  · cases r1; cases r2
    exact ⟨_, rfl, .inl ⟨_, rfl, outR.ok (R := rE K G) h em .bl⟩⟩
  · cases r1; cases r2
    exact ⟨_, rfl, .inr ⟨rfl, outR.ok (R := rE K G) h em .bl⟩⟩
  · exact h.elim
theorem r_isB {a b : Bool} {S : Sto} : isBD (.bl a) (.bl b) S = .ok (.bl (a == b)) S := rfl
theorem r_isNotB {a b : Bool} {S : Sto} : isNotBD (.bl a) (.bl b) S = .ok (.bl (!(a == b))) S := rfl
theorem r_isBN {b : Bool} {S : Sto} : isBD .non (.bl b) S = .ok (.bl false) S := rfl
theorem r_isNotBN {b : Bool} {S : Sto} : isNotBD .non (.bl b) S = .ok (.bl true) S := rfl
/-! ### text.index(text), found -/
def ixS (x : D) (ys : List D) (S : Sto) : Res D := match x, ys with
  | .str a, [.str b] => match Txt.index0 a b with
    | some j => .ok (.int (j : Nat)) S
    | none => .stuck
  | _, _ => .stuck
end
end MP

set_option Elab.async false
set_option linter.all false
set_option maxRecDepth 100000
set_option maxHeartbeats 4000000
namespace MP
open PySem L2
section
variable {X : Cx} {G : Ga} {W : WX} {k : Nat}
/-! ### t + u, t[a:b] of any tuples -/
def catT (x y : D) (S : Sto) : Res D := match x, y with
  | .tup xs, .tup ys => if xs.length + ys.length ≤ sizeLine then .ok (.tup (xs ++ ys)) S else .stuck
  | _, _ => .stuck
theorem s_catT {K : PySem.W.Frag} : OpS K G W catT (rCatA K) := by
  intro φ S σ H d1 d2 v1 v2 Q em r1 r2 h
  unfold catT at h
  split at h
  · rename_i xs ys
    split at h
    · rename_i hl
      cases r1 with
      | tup s1 q1 =>
        cases r2 with
        | tup s2 q2 =>
          have e1 := RVs.length q1
          have e2 := RVs.length q2
          refine ⟨_, _, _, _, rfl, rfl, s1, s2, by rw [← e1, ← e2]; exact hl, fun z => ?_, fun _ z => ?_, fun _ _ p hp => h φ _ _ (.other hp) (em.other hp) (.tup (.of upd_same) (RVs.ext (.other hp) (RVs.append q1 q2)))⟩
          · rw [z] at e1
            have : xs = [] := List.length_eq_zero_iff.mp e1
            subst this
            exact outR.ok (R := rE K G) h em (.tup s2 q2)
          · rw [z] at e2
            have : ys = [] := List.length_eq_zero_iff.mp e2
            subst this
            rw [List.append_nil] at h
            exact outR.ok (R := rE K G) h em (.tup s1 q1)
    · exact h.elim
  · exact h.elim
theorem catT_ok {xs ys : List D} {S : Sto} (h : (xs.length + ys.length ≤ sizeLine) = True) : catT (.tup xs) (.tup ys) S = .ok (.tup (xs ++ ys)) S := if_pos (by rw [h]; trivial)
def slT (o : D) (lo hi : Option Int) (S : Sto) : Res D := match o with
  | .tup xs => .ok (.tup (cutD xs lo hi)) S
  | _ => .stuck
def mSlT (mo : MEx) (ml mh : MPt) : MEx := fun ρ S => (mo ρ S).bind fun o S1 => (ml ρ S1).bind fun lo S2 => (mh ρ S2).bind fun hi S3 => slT o lo hi S3
theorem cut_whole {xs : List D} {lo hi : Option Int} (h : HT.sIx xs.length 0 lo = 0 ∧ HT.sIx xs.length xs.length hi = xs.length) : cutD xs lo hi = xs := by
  unfold cutD
  rw [h.1, h.2]
  simp
theorem d_slT {e : Expr} {lo hi : Option Expr} {m : MEx} {ml mh : MPt} {p2 pos : Pos} (he : PE X e (wpE X.K G W m)) (hl : PO X lo (wp X.K G W rO ml)) (hh : PO X hi (wp X.K G W rO mh)) : PE X (.Subscript e (.Slice lo hi none p2) pos) (wpE X.K G W (mSlT m ml mh)) := by
  refine pe_conv (pe_slice sl_tupA he hl hh) ?_
  rintro σ H Q ⟨φ, ρ, S, em, rs, h⟩
  refine ⟨φ, ρ, S, em, rs, h.bind fun o S1 φ1 v H1 x em1 rv h1 => ?_⟩
  refine ⟨φ1, ρ, S1, em1, rs.ext x, h1.bind fun l S2 φ2 l' H2 x2 em2 rl h2 => ?_⟩
  refine ⟨φ2, ρ, S2, em2, (rs.ext x).ext x2, h2.bind fun u S3 φ3 u' H3 x3 em3 ru h3 => ?_⟩
  cases (show l = l' from rl)
  cases (show u = u' from ru)
  have rv3 := RV.ext (x2.trans x3) rv
  unfold slT at h3
  split at h3
  · cases rv3 with
    | tup s q =>
      have e := RVs.length q
      refine ⟨_, _, rfl, s, fun hw => ?_, fun _ p hp => h3 φ3 _ _ (.other hp) (em3.other hp) (.tup (.of upd_same) (RVs.ext (.other hp) (RVs.cut q l u)))⟩
      rw [← e] at hw
      rw [cut_whole hw] at h3
      exact outR.ok (R := rE X.K G) h3 em3 (.tup s q)
  · exact h3.elim
def kSlTA (r : Res D) (ml mh : MPt) (ρ : Rho) : Res D := r.bind fun o S1 => (ml ρ S1).bind fun lo S2 => (mh ρ S2).bind fun hi S3 => slT o lo hi S3
def kSlTB (r : Res (Option Int)) (o : D) (mh : MPt) (ρ : Rho) : Res D := r.bind fun lo S2 => (mh ρ S2).bind fun hi S3 => slT o lo hi S3
def kSlTC (r : Res (Option Int)) (o : D) (lo : Option Int) : Res D := r.bind fun hi S3 => slT o lo hi S3
theorem r_slT {mo : MEx} {ml mh : MPt} {ρ : Rho} {S : Sto} : mSlT mo ml mh ρ S = kSlTA (mo ρ S) ml mh ρ := rfl
theorem kSlTA_ok {d : D} {ml mh : MPt} {ρ : Rho} {S : Sto} : kSlTA (.ok d S) ml mh ρ = kSlTB (ml ρ S) d mh ρ := rfl
theorem kSlTB_ok {d : D} {lo : Option Int} {mh : MPt} {ρ : Rho} {S : Sto} : kSlTB (.ok lo S) d mh ρ = kSlTC (mh ρ S) d lo := rfl
theorem kSlTC_ok {d : D} {lo hi : Option Int} {S : Sto} : kSlTC (.ok hi S) d lo = slT d lo hi S := rfl
theorem slT_ok {xs : List D} {lo hi : Option Int} {S : Sto} : slT (.tup xs) lo hi S = .ok (.tup (cutD xs lo hi)) S := rfl
/-! ### text.index(text), found -/
def isStr (d : D) (_ : Sto) : Bool := match d with
  | .str _ => true
  | _ => false
theorem s_ixS {φ : List Addr} {S : Sto} {σ : L2.St} {H : Hp} {d : D} {ds : List D} {v : V} {vs : List V} {Q : VK} (em : Emb X.K G φ S H) (r1 : RV X.K G H φ d v) (r2 : RVs X.K G H φ ds vs) (h : outR X.K G W (rE X.K G) (ixS d ds S) φ σ H Q) : rIndexX W σ v vs H Q := by
  unfold ixS at h
  split at h
  · rename_i a b
    cases r1
    cases r2 with
    | cons r2 r3 =>
      cases r2
      cases r3
      split at h
      · rename_i j ej
        refine ⟨_, _, rfl, rfl, fun k hk => ?_, fun z => ?_⟩
        · rw [ej] at hk; cases hk
          exact outR.ok (R := rE X.K G) h em .int
        · rw [ej] at z; cases z
      · exact False.elim h
  · exact False.elim h
theorem d_ixS {o e : Expr} {es : List Expr} {mo : MEx} {ms : MAr} {apos cpos : Pos} (d : DX X G W k) (ho : PE X o (wpE X.K G W mo)) (ha : PA X (e :: es) (wpA X.K G W ms))
    (hbase : attributeBase o "index" X.env (eval o X.env) = eval o X.env := by rfl)
    (hfew : ((backTo cpos (starEach (e :: es) X.env)).all (fun x => !x.1) && (backToKw cpos (keywordEach [] X.env)).all (fun x => x.1.isSome)
      && decide ((e :: es).length + ([] : List Keyword).length + (if ([] : List Keyword).isEmpty then 0 else 1) < 30)) = true := by rfl)
    (hline : (apos.endLine == cpos.line) = true := by rfl) (hs : starEach (e :: es) X.env = (false, eval e X.env) :: starEach es X.env := by rfl) (hplain : (backTo cpos (starEach es X.env)).any (·.1) = false := by rfl) :
    PE X (.Call (.Attribute o "index" apos) (e :: es) [] cpos) (wpE X.K G W (mBM isStr ixS mo ms)) := by
  refine pe_conv (pe_bmS PySem.F.plainAttrs_str PySem.F.slot_str_index PySem.F.type_str_index (mt_indexX d.calm d.tk) ho ha hbase hfew hline hs hplain) ?_
  rintro σ H Q ⟨φ, ρ, S, em, rs, h⟩
  refine ⟨φ, ρ, S, em, rs, h.bind fun x S1 φ1 v H1 x1 em1 rv h1 => ?_⟩
  split at h1
  · rename_i hp
    refine ⟨?_, φ1, ρ, S1, em1, rs.ext x1, h1.bind fun ds S2 φ2 vs H2 x2 em2 rvs h2 => ?_⟩
    · cases x with
      | str a => cases rv; exact rfl
      | _ => cases hp
    · exact s_ixS em2 (RV.ext x2 rv) rvs h2
  · exact h1.elim
theorem ixS_ok {a b : Str} {j : Nat} {S : Sto} (h : Txt.index0 a b = some j) : ixS (.str a) [.str b] S = .ok (.int (j : Nat)) S := by
  simp only [ixS, h]
theorem isStr_str {a : Str} {S : Sto} : isStr (.str a) S = true := rfl
/-! ### a dict display, texts to whole numbers -/
def iKV (kvs : List (Str × Int)) : List (Key × D) := kvs.map fun p => (.inr p.1, .int p.2)
def mDctI (kvs : List (Str × Int)) : MEx := fun _ S => .ok (.loc S.length) (S ++ [.dct false (iKV kvs)])
theorem pairs_constI {σ : L2.St} {Q : List (V × V) → Hp → Prop} : ∀ {kvs : List (Str × Int)} {H : Hp}, Q (kvs.map fun p => (V.str p.1, V.int p.2)) H → tPairs (kvs.map fun p => (tC (.str p.1), tC (.int p.2))) σ H Q
  | [], _, h => h
  | _ :: _, _, h => pairs_constI (Q := fun ps H3 => Q (_ :: ps) H3) h
theorem d_dctI {keys : List (Option Expr)} {values : List Expr} {pos : Pos} (kvs : List (Str × Int)) (h : PPs X pos keys values (kvs.map fun p => (tC (.str p.1), tC (.int p.2)))) (hall : keys.all (·.isSome) = true := by rfl) (hl : keys.length = values.length := by rfl)
    (h0 : keys ≠ [] := by exact List.cons_ne_nil _ _) (h15 : keys.length ≤ 15 := by decide) (hk : kvs.length ≤ 15 := by decide) (nd : kvs.Pairwise (fun a b => a.1 ≠ b.1) := by decide) : PE X (.Dict keys values pos) (wpE X.K G W (mDctI kvs)) := by
  refine pe_conv (pe_disp h hall hl h0 h15) ?_
  rintro σ H Q ⟨φ, ρ, S, em, rs, h⟩ p hp
  apply pairs_constI
  refine ⟨upd_same, kvs.map fun q => ((.inr q.1 : Key), V.int q.2), by rw [List.map_map]; rfl, by rw [List.length_map]; exact hk, ?_⟩
  rw [upd_upd, merge_nd (acc := []) (fun _ _ => rfl) (by rw [List.pairwise_map]; exact nd.imp fun h z => h (Sum.inr.inj z)), List.nil_append]
  have rk : ∀ (l : List (Str × Int)) (H' : Hp) (φ' : List Addr), RKs X.K G H' φ' id (iKV l) (l.map fun q => ((.inr q.1 : Key), V.int q.2)) := by
    intro l H' φ'
    induction l with
    | nil => exact .nil
    | cons a r ih => exact .cons .int ih
  refine h (φ ++ [p]) (.ref p) _ (.new hp) (em.new hp (.dct upd_same (rk _ _ _))) (.loc ?_)
  rw [← em.len]
  simp
end
end MP

set_option Elab.async false
set_option linter.all false
set_option maxRecDepth 100000
set_option maxHeartbeats 4000000
namespace MP
open PySem PySem.Spec PyProof.Rows L2
abbrev SSt := L2.St
/-! ### objects that are not tracked are taken out of sight; one is tracked -/
section
variable {X : Cx} {pins : List (Addr × Obj)} {σ : SSt} {H : Hp} {s : Shared}
structure Outs (X : Cx) (pins : List (Addr × Obj)) (H : Hp) (s : Shared) (a : Addr) : Prop where
  un : H a = none
  n0 : X.s_0.heap.get? a = none
  nl : a ≠ X.env.locals
  fl : ∃ o vs, s.heap.get? a = some o ∧ o.data = .fields vs
  np : ∀ p ∈ X.pn ++ pins, p.1 ≠ a
theorem hideL {ls : List Addr} (I : Inv X pins σ H s) (hl : ∀ a ∈ ls, Outs X pins H s a) :
    ∃ G : Heap, (∀ b o, G.get? b = some o → s.heap.get? b = some o) ∧ (∀ b o, b ∉ ls → s.heap.get? b = some o → G.get? b = some o) ∧ (∀ a ∈ ls, G.get? a = none) ∧ Inv X pins σ H { s with heap := G } := by
  obtain ⟨G, g1, g2⟩ := restrict s.heap fun b => decide (b ∉ ls)
  have gk : ∀ b o, b ∉ ls → s.heap.get? b = some o → G.get? b = some o := fun b o hb e => by
    rw [g1 b (decide_eq_true hb)]
    exact e
  have ga : ∀ a ∈ ls, G.get? a = none := fun a h => g2 a (decide_eq_false fun z => z h)
  have gs : ∀ b o, G.get? b = some o → s.heap.get? b = some o := fun b o e => by
    by_cases hb : b ∈ ls
    · rw [ga b hb] at e
      cases e
    · rw [← g1 b (decide_eq_true hb)]
      exact e
  have ne0 : ∀ b o, X.s_0.heap.get? b = some o → b ∉ ls := fun b o e z => by
    rw [(hl b z).n0] at e
    cases e
  have neT : ∀ b u, H b = some u → b ∉ ls := fun b u e z => by
    rw [(hl b z).un] at e
    cases e
  have cellK : ∀ x c, X.env.cells.lookup x = some c → ∀ v, s.heap.IsCell c v → G.IsCell c v := fun x c e v ⟨o, ho, hd⟩ => ⟨o, gk c o (fun z => by
    obtain ⟨o', vs, h1, h2⟩ := (hl c z).fl
    rw [ho] at h1
    cases h1
    rw [hd] at h2
    cases h2) ho, hd⟩
  refine ⟨G, gs, gk, ga, ⟨I.ok, I.os, I.bare, ⟨fun b o e n hb hq => ?_, fun b o e n hb hq => ?_, I.base.free, fun b o e hq => ?_, I.base.tups, I.base.frzs, I.base.tbls⟩, ?_, fun x c e => ?_, I.free, I.freeC, fun p hp => ?_, fun b u e => ?_, I.len⟩⟩
  · exact gk b o (ne0 b o e) (I.base.keep b o e n hb hq)
  · obtain ⟨sl, q⟩ := I.base.slot b o e n hb hq
    exact ⟨sl, gk b _ (ne0 b o e) q⟩
  · obtain ⟨o', q⟩ := I.base.there b o e hq
    exact ⟨o', gk b o' (ne0 b o e) q⟩
  · obtain ⟨m, ⟨o, es, ep, ho, r⟩, hlk⟩ := I.loc
    refine ⟨m, ⟨o, es, ep, gk _ _ (fun z => (hl _ z).nl rfl) ho, r⟩, fun i x v e1 e2 e3 => ?_⟩
    obtain ⟨u, r', l⟩ := hlk i x v e1 e2 e3
    refine ⟨u, r', ?_⟩
    rcases l with l | ⟨k, c, ec, z⟩
    · exact .inl l
    · exact .inr ⟨k, c, ec, cellK x c ec _ z⟩
  · obtain ⟨v, z⟩ := I.cell x c e
    exact ⟨v, cellK x c e v z⟩
  · obtain ⟨e, n, ne, nf, d⟩ := I.pin p hp
    exact ⟨gk _ _ (fun z => (hl _ z).np p hp rfl) e, n, ne, nf, d⟩
  · exact (I.hok b u e).stay (fun c v hc q => gk c v (by
      rcases hc with z | z
      · rw [z]; exact neT b u e
      · exact neT c _ z) q) (fun c q => q) fun c xs q => q
/-- an exception that was caught is tracked from now on -/
theorem trackX {a : Addr} {cls : Value} {d : Option Addr} (I : Inv X pins σ H s) (o : Outs X pins H s a) (z : ∃ oe vs, s.heap.get? a = some oe ∧ Zc cls d oe ∧ oe.data = .fields vs) : Inv X pins σ (upd H a (ExK cls d a)) s := by
  have ne0 : ∀ b o, X.s_0.heap.get? b = some o → b ≠ a := fun b o' e z => by
    rw [z, o.n0] at e
    cases e
  have neT : ∀ b u, H b = some u → b ≠ a := fun b u e z => by
    rw [z, o.un] at e
    cases e
  refine ⟨I.ok, I.os, I.bare, ⟨I.base.keep, I.base.slot, fun b o' e n hq => ?_, I.base.there, fun b xs e => ?_, fun b o' u e => ?_, fun b ps e => ?_⟩, I.loc, I.cell, ?_, fun x c e => ?_, fun p hp => ?_, fun b u e => ?_, I.len⟩
  · rw [upd_ne (ne0 b o' e)]
    exact I.base.free b o' e n hq
  · have q := I.base.tups b xs e
    rw [upd_ne (neT b _ q)]
    exact q
  · have q := I.base.frzs b o' u e
    rw [upd_ne (neT b _ q)]
    exact q
  · obtain ⟨m, q⟩ := I.base.tbls b ps e
    exact ⟨m, by rw [upd_ne (neT b _ q)]; exact q⟩
  · rw [upd_ne (fun q => o.nl q.symm)]
    exact I.free
  · have : c ≠ a := fun q => by
      obtain ⟨v, oc, ho, hd⟩ := I.cell x c e
      obtain ⟨o', vs, h1, h2⟩ := o.fl
      rw [q, h1] at ho
      cases ho
      rw [hd] at h2
      cases h2
    rw [upd_ne this]
    exact I.freeC x c e
  · obtain ⟨e, n, ne, nf, d⟩ := I.pin p hp
    exact ⟨e, by rw [upd_ne (o.np p hp)]; exact n, ne, nf, d⟩
  · by_cases hb : b = a
    · subst hb
      rw [upd_same] at e
      cases e
      obtain ⟨oe, vs, h1, h2, h3⟩ := z
      exact ⟨⟨oe, vs, h1, h2, h3⟩, ⟨oe, h1⟩, fun _ _ ⟨o, v, q, r⟩ k => ⟨o, v, k o q, r⟩⟩
    · rw [upd_ne hb] at e
      exact (I.hok b u e).stay (fun c v _ q => q) (fun c q => by rw [upd_ne (neT c _ q)]; exact q) fun c xs q => by rw [upd_ne (neT c _ q)]; exact q
/-- a suite that holds more -/
theorem suite2 {a : Addr} {ps : List (Addr × Obj)} (I : Inv X pins σ H s) (hp : ∀ p ∈ ps, s.heap.get? p.1 = some p.2 ∧ H p.1 = none ∧ p.1 ≠ X.env.locals ∧ p.1 ∉ X.fs ∧ ∀ v, p.2.data ≠ .cell v) : Inv (X.suite a (ps ++ (X.pn ++ pins))) [] σ H s :=
  ⟨I.ok.suite _ _, I.os, I.bare, I.base, I.loc, I.cell, I.free, I.freeC, fun p hq => by
    have hq' : p ∈ ps ++ (X.pn ++ pins) := by rw [List.append_nil] at hq; exact hq
    rcases List.mem_append.mp hq' with e | h
    · exact hp p e
    · exact I.pin p h, I.hok, I.len⟩
theorem unsuite2 {a : Addr} {ps pn' : List (Addr × Obj)} (I : Inv (X.suite a (ps ++ (X.pn ++ pins))) pn' σ H s) (ok : X.Ok) : Inv X pins σ H s :=
  ⟨ok, I.os, I.bare, I.base, I.loc, I.cell, I.free, I.freeC, fun p hp => I.pin p (List.mem_append_left _ (List.mem_append_right _ hp)), I.hok, I.len⟩
end
/-! ### a bare raise -/
theorem bare_at {M : Model} {A : Around} {E : Value → Shared → Prop} {s : Shared} {env : Env} {a L : Addr} {B : Heap} {l : List Env} {Z : Obj → Prop} {pos : Pos} {Q : Flow → Shared → Prop} (hh : A.handled = some (.ref a)) (hf : env.frame = some L)
    (fl : HandSPX.FlyingZ B l a Z s.heap) (h : ∀ h', HandSPX.HeldZ B l a Z L h' → s.heap.UpToSlots h' → E (.ref a) { s with heap := h' }) : wpAny M A (exec (.Raise none none pos) env) Q E s := by
  refine PySem.wpAny_Raise_bare ?_
  obtain ⟨k1, k2, k3, oe, vs, T, oT, ts, he, hz, hd, h1, hr⟩ := id fl
  unfold PySem.raiseBare raiseStmt
  dsimp only
  refine wpAny_bind (wpAny_handled ?_)
  rw [hh]
  dsimp only
  refine wpAny_bind (wpAny_rule ?_)
  refine wpAny_bind (wpAny_field he hd h1 ?_)
  rw [if_neg (show ¬ ((Value.ref T == Value.none) = true) from by simp)]
  rw [hf]
  first
    | exact wpAny_bind (HandSPX.setFlight_upZ fl fun h' a b => wpAny_throw (h h' a b))
    | exact wpAny_bind (wpAny_pure (wpAny_bind (HandSPX.setFlight_upZ fl fun h' a b => wpAny_throw (h h' a b))))
/-! ### try with clauses that run through, that raise again, that keep -/
inductive HkW where
  | run (ts : Addr → Value → Option Addr → TS)
  | again (ts : Addr → Value → Option Addr → TS)
  | as_ (i : Nat) (ts : TS)
def wK (K : PySem.W.Frag) (Wout : WX) (D : Ends) : List (Value × HkW) → WX
  | [] => Wout
  | (c, h) :: r => fun cls d σ H => ∃ b, PySem.W.exmOne K cls c = some b ∧ (b = true → match h with
      | .run ts => ∀ a, H a = none → ts a cls d D σ H
      | .again ts => ∀ a, H a = none → ts a cls d { nx := fun σ' H' => Wout cls d σ' H', rt := D.rt, bk := D.bk, ct := D.ct } σ H
      | .as_ i ts => ∀ a, H a = none → ts { nx := fun σ' H' => D.nx (σ'.set i none) H', rt := D.rt, bk := fun σ' H' => D.bk (σ'.set i none) H', ct := fun σ' H' => D.ct (σ'.set i none) H' } (σ.set i (some (.ref a))) (upd H a (ExK cls d a))) ∧ (b = false → wK K Wout D r cls d σ H)
inductive HksOk (X : Cx) : List ExceptHandler → List (Value × HkW) → Prop
  | nil : HksOk X [] []
  | run {x : Str} {c : Value} {ts : Addr → Value → Option Addr → TS} {b₀ : Stmt} {suite : List Stmt} {np pos' : Pos} {hds : List ExceptHandler} {l : List (Value × HkW)} (hc : Names X x c)
      (hsu : ∀ (a : Addr) (oe : Obj) (cls : Value) (d : Option Addr) (pn : List (Addr × Obj)), Zc cls d oe → (∃ vs, oe.data = .fields vs) → PSs (X.suite a ((a, oe) :: pn)) (b₀ :: suite) (ts a cls d)) (r : HksOk X hds l) :
      HksOk X (.ExceptHandler (some (.Name x np)) none (b₀ :: suite) pos' :: hds) ((c, .run ts) :: l)
  | again {x : Str} {c : Value} {ts : Addr → Value → Option Addr → TS} {b₀ : Stmt} {np pos' pr : Pos} {hds : List ExceptHandler} {l : List (Value × HkW)} (hc : Names X x c)
      (hsu : ∀ (a : Addr) (oe : Obj) (cls : Value) (d : Option Addr) (pn : List (Addr × Obj)), Zc cls d oe → (∃ vs, oe.data = .fields vs) → PS (X.suite a ((a, oe) :: pn)) b₀ (ts a cls d)) (r : HksOk X hds l) :
      HksOk X (.ExceptHandler (some (.Name x np)) none [b₀, .Raise none none pr] pos' :: hds) ((c, .again ts) :: l)
  | as_ {x n : Str} {c : Value} {ts : TS} {b₀ : Stmt} {suite : List Stmt} {i : Nat} {np pos' : Pos} {hds : List ExceptHandler} {l : List (Value × HkW)} (hc : Names X x c) (hi : X.N[i]? = some n) (hln : X.env.kindOf n = some .local)
      (hsu : ∀ (a : Addr) (pn : List (Addr × Obj)), PSs (X.suite a pn) (b₀ :: suite) ts) (r : HksOk X hds l) :
      HksOk X (.ExceptHandler (some (.Name x np)) (some n) (b₀ :: suite) pos' :: hds) ((c, .as_ i ts) :: l)
section
variable {X : Cx} {body : List Stmt} {h₀ : ExceptHandler} {hds : List ExceptHandler} {l : List (Value × HkW)} {pos : Pos} {tb : WX → TS} {Wout : WX}
theorem ps_try_K (hs : X.stack = X.env :: X.outer) (hf : X.env.frame = some X.env.locals) (hN : X.N.Nodup) (hex : X.ex = []) (tk : Takes X Wout) (hpa : ∀ hd : Option Value, PassesOwnAt (model X.prog X.w) (X.A.mark hd) X.A X.env X.xe)
    (hb : ∀ (W : WX) (pn : List (Addr × Obj)) (xe : Value → Shared → Prop), Takes (X.tr pn xe) W → PassesOwn (model X.prog X.w) X.A X.env xe → PSs (X.tr pn xe) body (tb W))
    (hh : HksOk X (h₀ :: hds) l) : PS X (.Try body (h₀ :: hds) [] [] pos) (fun D σ H => tb (wK X.K Wout D l) D σ H) := by
  refine ⟨fun pins s σ H D I h => ?_⟩
  have ok := I.ok
  have hfr : X.A.frames = some (X.env :: X.outer) := by rw [ok.frames, hs]
  refine wpAny_Try_except ?_
  refine wpAny_mono ((hb (wK X.K Wout D l) (X.pn ++ pins) (fun e s₁ => wpAny (model X.prog X.w) X.A (noteFrame e X.env) (fun _ s₂ => wpAny (model X.prog X.w) X.A (setFlight e none) (fun _ s₃ =>
    wpAny (model X.prog X.w) X.A (handleBy e X.env (h₀ :: hds)) (SP X pins D) X.xe s₃) X.xe s₂) X.xe s₁) (fun u s' xx => ?_) PassesOwn.looking).run [] s σ H D (I.toTry _) h) (fun f s1 hsp => ?_) (fun e s1 he => he)
  · obtain ⟨a, B, sI, pins', σ', H', cls, d, rfl, J', nb, up, sky, na, os, ag, w⟩ := xx
    have J : Inv X pins σ' H' sI := J'.ofTry ok
    have sky' : Sky B (X.env :: X.outer) a (Zc cls d) X.env.locals s'.heap := by rw [← hs]; exact sky
    show wpAny (model X.prog X.w) X.A (noteFrame (.ref a) X.env) _ _ _
    refine Sky.land Zc.steady hfr hf sky' fun h3 fl3 up3 => ?_
    have J3 : Inv X pins σ' H' { s' with heap := h3 } := J.landed nb fl3.1 (up.trans up3) os ag
    obtain ⟨oe3, vs3, he3, hz3, hd3⟩ := fl3.there
    have notFr : ∀ {b : Addr} {h : Heap} {o : Obj} {vs : Array Value}, h.FunFrames B (X.env :: X.outer) → h.get? b = some o → o.data = .fields vs → b ∉ frs (X.env :: X.outer) := fun {b h o vs} ff e dd hm => by
      obtain ⟨_, o', e', hnf⟩ := ff.mem hm
      rw [e] at e'; cases e'
      exact hnf _ dd
    have locF : ∀ {b : Addr}, b ∉ frs (X.env :: X.outer) → b ≠ X.env.locals ∧ b ∉ X.fs := fun {b} nfr => ⟨fun z => nfr (List.mem_filterMap.mpr ⟨X.env, List.mem_cons_self, by rw [hf, z]⟩), fun hm => by
      obtain ⟨e, he, q⟩ := List.mem_filterMap.mp hm
      exact nfr (List.mem_filterMap.mpr ⟨e, List.mem_cons_of_mem _ he, q⟩)⟩
    have nfr := notFr fl3.2.2.1 he3 hd3
    obtain ⟨nL, nF⟩ := locF nfr
    have S3 := J3.suite he3 hd3 na nL nF
    -- what lies over the ground is not ours
    have gnd : HOk X.prog X.w H' B := J.inGround nb
    have nB0 : ∀ {b : Addr}, B.get? b = none → b ∉ frs (X.env :: X.outer) → X.s_0.heap.get? b = none := fun {b} hB nf => by
      cases e : X.s_0.heap.get? b with
      | none => rfl
      | some o =>
        obtain ⟨o', q⟩ := J.base.there b o e (by rw [hex]; exact fun z => nomatch z)
        rw [nb b o' q (by rw [hs]; exact nf)] at hB
        cases hB
    have nBp : ∀ {b : Addr}, B.get? b = none → b ∉ frs (X.env :: X.outer) → ∀ p ∈ X.pn ++ pins, p.1 ≠ b := fun {b} hB nf p hp z => by
      obtain ⟨e, _⟩ := J.pin p hp
      rw [z] at e
      rw [nb b _ e (by rw [hs]; exact nf)] at hB
      cases hB
    have go : ∀ {hds' : List ExceptHandler} {l' : List (Value × HkW)}, HksOk X hds' l' → wK X.K Wout D l' cls d σ' H' →
        wpAny (model X.prog X.w) X.A (handleBy (.ref a) X.env hds') (SP X pins D) X.xe { s' with heap := h3 } := by
      have LT : PySem.W.Looks (model X.prog X.w) h3 (typeOf (.ref a)) cls := fun A Q E s k q => wpAny_typeOf_ref (k _ _ he3) (by rw [hz3.1]; exact q)
      have test : ∀ {x : Str} {c : Value} {np : Pos} {Q : Value → Shared → Prop} {E : Value → Shared → Prop}, Names X x c → Q c { s' with heap := h3 } → wpAny (model X.prog X.w) (X.A.mark (some (.ref a))) (eval (.Name x np) X.env) Q E { s' with heap := h3 } := fun {x c np Q E} hc q => by
        obtain ⟨hg, hdbg, hm | ⟨hm, hv, hnn⟩⟩ := hc
        · exact ld_glob (X := X.suite a ((a, oe3) :: (X.pn ++ pins))) S3 hg hm q hdbg
        · exact ld_blt (X := X.suite a ((a, oe3) :: (X.pn ++ pins))) S3 hg hm hv q hnn hdbg
      intro hds' l' hk
      induction hk with
      | nil =>
        intro w
        refine wpAny_handleBy_nil ?_
        obtain ⟨k1, k2, k3, oe, vs, T, oT, ts', he, hz, hd, h1, hr⟩ := id fl3
        unfold PySem.passOn
        refine wpAny_bind (wpAny_field he hd h1 ?_)
        rw [if_neg (show ¬ ((Value.ref T == Value.none) = true) from by simp)]
        have fin : wpAny (model X.prog X.w) X.A (setFlight (.ref a) X.env.frame) (fun _ s4 => wpAny (model X.prog X.w) X.A (throw (.ref a) : Sem Flow) (SP X pins D) X.xe s4) X.xe { s' with heap := h3 } := by
          rw [hf]
          refine HandSPX.setFlight_upZ fl3 fun h4 hh4 up4 => wpAny_throw (tk _ _ ?_)
          exact ⟨a, B, sI, pins, σ', H', cls, d, rfl, J, nb, (up.trans up3).trans up4, .inr (.inr (by rw [hs]; exact hh4)), na, os, ag, w⟩
        first
          | exact wpAny_bind (wpAny_pure (wpAny_bind fin))
          | exact wpAny_bind fin
      | @run x c ts b₀ suite np pos' hds2 l2 hc hsu r ih =>
        intro w
        obtain ⟨b, hb1, hyes, hno⟩ := w
        refine wpAny_handleBy_cons (codeAny_handlers_test ?_) (by intro q; cases q)
        have LM := PySem.W.exm_one (M := model X.prog X.w) (J3.kIn) LT hb1
        refine test hc (LM.here ?_)
        cases b with
        | true =>
          refine codeAny_handlers_suite ?_
          refine HandSPX.lands_againZ fl3 fun h4 fl4 up4 => ?_
          have J4 : Inv X pins σ' H' { s' with heap := h4 } := J.landed nb fl4.1 ((up.trans up3).trans up4) os ag
          obtain ⟨oe4, vs4, he4, hz4, hd4⟩ := fl4.there
          have S4 := J4.suite he4 hd4 na nL nF
          refine wpAny_mono ((hsu a oe4 cls d (X.pn ++ pins) hz4 ⟨_, hd4⟩).run [] _ _ H' _ S4 (hyes rfl a na)) (fun f s6 hsp => ?_) (fun _ _ z => False.elim z)
          cases f with
          | next =>
            obtain ⟨σ6, H6, S6, q6⟩ := hsp
            exact ⟨_, _, S6.unsuite ok, q6⟩
          | brk =>
            obtain ⟨σ6, H6, S6, q6⟩ := hsp
            exact ⟨_, _, S6.unsuite ok, q6⟩
          | cont =>
            obtain ⟨σ6, H6, S6, q6⟩ := hsp
            exact ⟨_, _, S6.unsuite ok, q6⟩
          | ret u =>
            obtain ⟨v6, σ6, H6, S6, r6, q6⟩ := hsp
            exact ⟨_, _, _, S6.unsuite ok, r6, q6⟩
        | false =>
          show wpAny _ X.A (handleBy (.ref a) X.env hds2) _ _ _
          exact ih (hno rfl)
      | @again x c ts b₀ np pos' pr hds2 l2 hc hsu r ih =>
        intro w
        obtain ⟨b, hb1, hyes, hno⟩ := w
        refine wpAny_handleBy_cons (codeAny_handlers_test ?_) (by intro q; cases q)
        have LM := PySem.W.exm_one (M := model X.prog X.w) (J3.kIn) LT hb1
        refine test hc (LM.here ?_)
        cases b with
        | true =>
          refine codeAny_handlers_suite ?_
          refine HandSPX.lands_againZ fl3 fun h4 fl4 up4 => ?_
          have J4 : Inv X pins σ' H' { s' with heap := h4 } := J.landed nb fl4.1 ((up.trans up3).trans up4) os ag
          obtain ⟨kb4, kn4, kf4, oe4, vs4, T, oT, ts4, he4, hz4, hd4, h14, hBT, hTa, hT4, hdT4, h34⟩ := id fl4
          have nfrT := notFr kf4 hT4 hdT4
          obtain ⟨nLT, nFT⟩ := locF nfrT
          have nT : H' T = none := gnd.gone hBT
          have S4 : Inv (X.suite a ([(a, oe4), (T, oT)] ++ (X.pn ++ pins))) [] σ' H' { s' with heap := h4 } := suite2 J4 fun p hp => by
            simp only [List.mem_cons, List.not_mem_nil, or_false] at hp
            rcases hp with rfl | rfl
            · exact ⟨he4, na, nL, nF, fun v z => by rw [show oe4.data = _ from hd4] at z; cases z⟩
            · exact ⟨hT4, nT, nLT, nFT, fun v z => by rw [show oT.data = _ from hdT4] at z; cases z⟩
          refine wpAny_execs_cons (wpAny_mono ((hsu a oe4 cls d ((T, oT) :: (X.pn ++ pins)) hz4 ⟨_, hd4⟩).run [] _ _ H' _ S4 (hyes rfl a na)) (fun f s6 hsp => ?_) (fun _ _ z => False.elim z))
          cases f with
          | next =>
            obtain ⟨σ6, H6, S6, q6⟩ := hsp
            have I6 : Inv X pins σ6 H6 s6 := unsuite2 (ps := [(a, oe4), (T, oT)]) S6 ok
            have p1 := S6.pin (a, oe4) (List.mem_append_left _ List.mem_cons_self)
            have p2 := S6.pin (T, oT) (List.mem_append_left _ (List.mem_cons_of_mem _ List.mem_cons_self))
            obtain ⟨G, g1, g2, g3, IG⟩ := hideL (ls := [a, T]) I6 fun b hb => by
              simp only [List.mem_cons, List.not_mem_nil, or_false] at hb
              rcases hb with rfl | rfl
              · exact ⟨p1.2.1, nB0 kn4 nfr, nL, ⟨_, _, p1.1, hd4⟩, nBp kn4 nfr⟩
              · exact ⟨p2.2.1, nB0 hBT nfrT, nLT, ⟨_, _, p2.1, hdT4⟩, nBp hBT nfrT⟩
            have ga : G.get? a = none := g3 a List.mem_cons_self
            have gT : G.get? T = none := g3 T (List.mem_cons_of_mem _ List.mem_cons_self)
            obtain ⟨B6, hB6⟩ : ∃ B6, B6 = PySem.W.hideAll G (frs X.stack) := ⟨_, rfl⟩
            have b6G : ∀ b o, B6.get? b = some o → G.get? b = some o := fun b o e => PySem.W.of_hideAll _ (hB6 ▸ e)
            have non6 : ∀ b, G.get? b = none → B6.get? b = none := fun b e => by
              cases q : B6.get? b with
              | none => rfl
              | some o => rw [b6G b o q] at e; cases e
            have fl6 : HandSPX.FlyingZ B6 (X.env :: X.outer) a (Zc cls d) s6.heap := by
              refine ⟨fun b o e => g1 b o (b6G b o e), non6 a ga, ?_, oe4, vs4, T, oT, ts4, p1.1, hz4, hd4, h14, non6 T gT, hTa, p2.1, hdT4, h34⟩
              have q := funFrames_none (B := B6) I6.stack fun b hb => by rw [hB6]; exact PySem.W.hideAll_none _ hb
              rw [hs] at q
              exact q
            refine wpAny_execs_cons (bare_at (Q := fun f s' => match f with | .next => _ | f => _) rfl hf fl6 fun h7 hh7 up7 => ?_)
            refine hpa (some (.ref a)) _ _ (tk _ _ ?_)
            refine ⟨a, B6, { s6 with heap := G }, pins, σ6, H6, cls, d, rfl, IG, fun b o e hb => by rw [hB6]; exact PySem.W.hideAll_get _ e hb, fun b o e hnf => up7 b o (g1 b o e) hnf, .inr (.inr (by rw [hs]; exact hh7)), p1.2.1, rfl, I6.bare, q6⟩
          | brk =>
            obtain ⟨σ6, H6, S6, q6⟩ := hsp
            exact ⟨_, _, unsuite2 (ps := [(a, oe4), (T, oT)]) S6 ok, q6⟩
          | cont =>
            obtain ⟨σ6, H6, S6, q6⟩ := hsp
            exact ⟨_, _, unsuite2 (ps := [(a, oe4), (T, oT)]) S6 ok, q6⟩
          | ret u =>
            obtain ⟨v6, σ6, H6, S6, r6, q6⟩ := hsp
            exact ⟨_, _, _, unsuite2 (ps := [(a, oe4), (T, oT)]) S6 ok, r6, q6⟩
        | false =>
          show wpAny _ X.A (handleBy (.ref a) X.env hds2) _ _ _
          exact ih (hno rfl)
      | @as_ x n c ts b₀ suite i np pos' hds2 l2 hc hi hln hsu r ih =>
        intro w
        obtain ⟨b, hb1, hyes, hno⟩ := w
        refine wpAny_handleBy_cons (codeAny_handlers_test ?_) (by intro q; cases q)
        have LM := PySem.W.exm_one (M := model X.prog X.w) (J3.kIn) LT hb1
        refine test hc (LM.here ?_)
        cases b with
        | true =>
          refine codeAny_handlers_suite_as ?_
          refine HandSPX.lands_againZ fl3 fun h4 fl4 up4 => ?_
          have J4 : Inv X pins σ' H' { s' with heap := h4 } := J.landed nb fl4.1 ((up.trans up3).trans up4) os ag
          obtain ⟨oe4, vs4, he4, hz4, hd4⟩ := fl4.there
          have T4 : Inv X pins σ' (upd H' a (ExK cls d a)) { s' with heap := h4 } := trackX J4 ⟨na, nB0 fl4.2.1 nfr, nL, ⟨_, _, he4, hd4⟩, nBp fl4.2.1 nfr⟩ ⟨_, _, he4, hz4, hd4⟩
          have S4 : Inv (X.suite a ([] ++ (X.pn ++ pins))) [] σ' (upd H' a (ExK cls d a)) { s' with heap := h4 } := suite2 T4 fun p hp => nomatch hp
          refine store_ok (X := X.suite a ([] ++ (X.pn ++ pins))) (v := .ref a) S4 hN hi (.inl hln) rfl (fun s5 S5 => ?_) (.inr hln)
          refine wpAny_mono ((hsu a ([] ++ (X.pn ++ pins))).run [] s5 _ _ _ S5 (hyes rfl a na)) (fun f s6 hsp => ?_) (fun _ _ z => False.elim z)
          have end_ : ∀ {σ6 : SSt} {H6 : Hp} {Q : Shared → Prop}, Inv (X.suite a ([] ++ (X.pn ++ pins))) [] σ6 H6 s6 → (∀ s7, Inv X pins (σ6.set i none) H6 s7 → Q s7) →
              wpAny (model X.prog X.w) X.A (do bindName X.env n .none; unbindBehindTheSuite X.env n pos') (fun _ s7 => Q s7) X.xe s6 := fun {σ6 H6 Q} S6 hq => gone_ok (unsuite2 (ps := []) S6 ok) hN hi hln hq
          cases f with
          | next =>
            obtain ⟨σ6, H6, S6, q6⟩ := hsp
            exact end_ S6 fun s7 J7 => ⟨_, _, J7, q6⟩
          | brk =>
            obtain ⟨σ6, H6, S6, q6⟩ := hsp
            exact end_ S6 fun s7 J7 => ⟨_, _, J7, q6⟩
          | cont =>
            obtain ⟨σ6, H6, S6, q6⟩ := hsp
            exact end_ S6 fun s7 J7 => ⟨_, _, J7, q6⟩
          | ret u =>
            obtain ⟨v6, σ6, H6, S6, r6, q6⟩ := hsp
            exact end_ S6 fun s7 J7 => ⟨_, _, _, J7, r6, q6⟩
        | false =>
          show wpAny _ X.A (handleBy (.ref a) X.env hds2) _ _ _
          exact ih (hno rfl)
    exact go hh w
  · cases f with
    | next =>
      obtain ⟨σ', H', J', q⟩ := hsp
      exact wpAny_execs_nil ⟨σ', H', J'.ofTry ok, q⟩
    | brk =>
      obtain ⟨σ', H', J', q⟩ := hsp
      exact ⟨σ', H', J'.ofTry ok, q⟩
    | cont =>
      obtain ⟨σ', H', J', q⟩ := hsp
      exact ⟨σ', H', J'.ofTry ok, q⟩
    | ret u =>
      obtain ⟨v, σ', H', J', r, q⟩ := hsp
      exact ⟨v, σ', H', J'.ofTry ok, r, q⟩
end
end MP

set_option Elab.async false
set_option linter.all false
set_option maxRecDepth 100000
set_option maxHeartbeats 4000000
namespace MP
open PySem PySem.Spec PyProof.Rows L2
/-! ### try with clauses that run through, raise again, hold what they caught -/
inductive HkM where
  | run (m : MSt) | again (m : MSt) | as_ (i : Nat) (m : MSt)
def agS (e : Ex) : SR → SR
  | .nx ρ S => .xc e ρ S
  | .xc _ _ _ => .stuck
  | r => r
def asS (i : Nat) : SR → SR
  | .nx ρ S => .nx (ρ.set i none) S
  | .bk ρ S => .bk (ρ.set i none) S
  | .ct ρ S => .ct (ρ.set i none) S
  | .xc _ _ _ => .stuck
  | r => r
def xvE (e : Ex) (f : D → SR) : SR := match e.v with
  | none => f (.xv e.c [])
  | some x => if x.pureB = true then f (.xv e.c [x]) else .stuck
def agE (e : Ex) (r : SR) : SR := match e.v with
  | none => agS e r
  | some _ => .stuck
def hDo (h : HkM) (e : Ex) (ρ : Rho) (S : Sto) : SR := match h with
  | .run m => noXS (m ρ S)
  | .again m => agE e (m ρ S)
  | .as_ i m => xvE e fun v => asS i (m (ρ.set i (some v)) S)
def hGoK : List (List (Xc × Bool) × HkM) → Ex → Rho → Sto → SR
  | [], e, ρ, S => .xc e ρ S
  | (l, h) :: r, e, ρ, S => match l.lookup e.c with
    | some true => hDo h e ρ S
    | some false => hGoK r e ρ S
    | none => .stuck
def sTryK (b : MSt) (hs : List (List (Xc × Bool) × HkM)) : MSt := fun ρ S => match b ρ S with
  | .xc e ρ' S' => hGoK hs e ρ' S'
  | r => r
section
variable {X : Cx} {G : Ga} {W : WX} {k : Nat}
inductive HsK (X : Cx) (G : Ga) : List ExceptHandler → List (List (Xc × Bool) × HkM) → Prop
  | nil : HsK X G [] []
  | run {x : Str} {l : List (Xc × Bool)} {m : MSt} {b₀ : Stmt} {suite : List Stmt} {np pos' : Pos} {hds : List ExceptHandler} {hs : List (List (Xc × Bool) × HkM)} (F : HdX X.K X.mg G x l) (hg : Gl X x) (hdb : (x == ("__debug__" : Str)) = false)
      (hsu : ∀ (a : Addr) (oe : Obj) (pn : List (Addr × Obj)), PSs (X.suite a ((a, oe) :: pn)) (b₀ :: suite) (wpS X.K G W0 m)) (r : HsK X G hds hs) :
      HsK X G (.ExceptHandler (some (.Name x np)) none (b₀ :: suite) pos' :: hds) ((l, .run m) :: hs)
  | again {x : Str} {l : List (Xc × Bool)} {m : MSt} {b₀ : Stmt} {np pos' pr : Pos} {hds : List ExceptHandler} {hs : List (List (Xc × Bool) × HkM)} (F : HdX X.K X.mg G x l) (hg : Gl X x) (hdb : (x == ("__debug__" : Str)) = false)
      (hsu : ∀ (a : Addr) (oe : Obj) (pn : List (Addr × Obj)), PS (X.suite a ((a, oe) :: pn)) b₀ (wpS X.K G W0 m)) (r : HsK X G hds hs) :
      HsK X G (.ExceptHandler (some (.Name x np)) none [b₀, .Raise none none pr] pos' :: hds) ((l, .again m) :: hs)
  | as_ {x n : Str} {l : List (Xc × Bool)} {m : MSt} {b₀ : Stmt} {suite : List Stmt} {i : Nat} {np pos' : Pos} {hds : List ExceptHandler} {hs : List (List (Xc × Bool) × HkM)} (F : HdX X.K X.mg G x l) (hg : Gl X x) (hdb : (x == ("__debug__" : Str)) = false)
      (hi : X.N[i]? = some n) (hln : X.env.kindOf n = some .local) (hsu : ∀ (a : Addr) (pn : List (Addr × Obj)), PSs (X.suite a pn) (b₀ :: suite) (wpS X.K G W0 m)) (r : HsK X G hds hs) :
      HsK X G (.ExceptHandler (some (.Name x np)) (some n) (b₀ :: suite) pos' :: hds) ((l, .as_ i m) :: hs)
theorem RS.unset {K : PySem.W.Frag} {φ : List Addr} {ρ : Rho} {σ : L2.St} {H : Hp} (h : RS K G φ ρ σ H) (i : Nat) : RS K G φ (ρ.set i none) (σ.set i none) H := by
  refine ⟨by simp [h.len], fun j e q => ?_⟩
  by_cases hj : i = j
  · subst hj
    have hl : i < ρ.length := by
      have := (List.getElem?_eq_some_iff.mp q).1
      simpa using this
    rw [List.getElem?_set_self hl] at q
    cases q
  · rw [List.getElem?_set_ne hj] at q
    rw [List.getElem?_set_ne hj]
    exact h.at_ j e q
theorem ext_new {φ : List Addr} {H : Hp} {a : Addr} {o : HO} (na : H a = none) : Ext φ H φ (upd H a o) :=
  ⟨List.prefix_rfl, .new na, fun b u n q => by rw [upd_ne (fun z => by rw [z, na] at q; cases q)]; exact q, fun _ h n => absurd h n⟩
theorem emb_out {K : PySem.W.Frag} {φ : List Addr} {S : Sto} {H : Hp} (em : Emb K G φ S H) {a : Addr} (na : H a = none) : a ∉ φ := fun h => by
  obtain ⟨u, q⟩ := em.there h
  rw [na] at q
  cases q
theorem emb_outx {K : PySem.W.Frag} {φ : List Addr} {S : Sto} {H : Hp} (em : Emb K G φ S H) {a : Addr} {fs : List (Str × V)} (na : H a = some (.xd fs)) : a ∉ φ := fun h => by
  obtain ⟨l, hl, e⟩ := List.mem_iff_getElem.mp h
  have e1 : φ[l]? = some a := by rw [← e]; exact List.getElem?_eq_getElem hl
  have hs : l < S.length := by rw [← em.len]; exact hl
  obtain ⟨o, ho⟩ : ∃ o, S[l]? = some o := ⟨_, List.getElem?_eq_getElem hs⟩
  have ro := em.ob l o a ho e1
  cases ro with
  | lst q _ => rw [na] at q; cases q
  | dct q _ => rw [na] at q; cases q
  | dctF q _ => rw [na] at q; cases q
  | ins q _ _ _ => rw [na] at q; cases q
theorem as_out {K : PySem.W.Frag} {i : Nat} {r : SR} {φ : List Addr} {H H1 : Hp} {D : Ends} (x : Ext φ H φ H1) (h : outS K G W (asS i r) φ H D) :
    outS K G W0 r φ H1 { nx := fun σ' H' => D.nx (σ'.set i none) H', rt := D.rt, bk := fun σ' H' => D.bk (σ'.set i none) H', ct := fun σ' H' => D.ct (σ'.set i none) H' } := by
  cases r with
  | xc e ρ S => exact h.elim
  | nx ρ S => exact fun φ' σ' H' x' em rs => h φ' _ H' (x.trans x') em (rs.unset i)
  | rt d S => exact fun φ' v H' x' em rs => h φ' _ H' (x.trans x') em rs
  | bk ρ S => exact fun φ' σ' H' x' em rs => h φ' _ H' (x.trans x') em (rs.unset i)
  | ct ρ S => exact fun φ' σ' H' x' em rs => h φ' _ H' (x.trans x') em (rs.unset i)
  | stuck => exact h
theorem ag_out {K : PySem.W.Frag} {e : Ex} {r : SR} {φ : List Addr} {H : Hp} {D : Ends} (hv : e.v = none) (h : outS K G W (agS e r) φ H D) :
    outS K G W0 r φ H { nx := fun σ' H' => W (.ref (G.xc e.c)) none σ' H', rt := D.rt, bk := D.bk, ct := D.ct } := by
  cases r with
  | xc e ρ S => exact h.elim
  | nx ρ S =>
    intro φ' σ' H' x' em rs
    have q := h φ' σ' H' x' em rs
    unfold XW at q
    rw [hv] at q
    exact q
  | rt d S => exact h
  | bk ρ S => exact h
  | ct ρ S => exact h
  | stuck => exact h
theorem hsk_ok {hds : List ExceptHandler} {hs : List (List (Xc × Bool) × HkM)} (h : HsK X G hds hs) : ∃ l, HksOk X hds l ∧
    ∀ (W : WX) (D : Ends) (e : Ex) (φ : List Addr) (ρ : Rho) (S : Sto) (σ : L2.St) (H : Hp), Emb X.K G φ S H → RS X.K G φ ρ σ H → outS X.K G W (hGoK hs e ρ S) φ H D → XW X.K G (wK X.K W D l) e φ σ H := by
  induction h with
  | nil => exact ⟨[], .nil, fun W D e φ ρ S σ H em rs h => h φ σ H .refl em rs⟩
  | @run x l m b₀ suite np pos' hds hs F hg hdb hsu r ih =>
    obtain ⟨ll, h1, h2⟩ := ih
    obtain ⟨cv, e1, e2⟩ := F.ex
    refine ⟨(cv, .run fun _ _ _ => wpS X.K G W0 m) :: ll, .run ⟨hg, hdb, .inl e1⟩ (fun a oe cls d pn _ _ => hsu a oe pn) h1, fun W D e φ ρ S σ H em rs h => ?_⟩
    have key : ∀ dd, (∀ (hf : outS X.K G W (hGoK hs e ρ S) φ H D), wK X.K W D ll (.ref (G.xc e.c)) dd σ H) → wK X.K W D ((cv, .run fun _ _ _ => wpS X.K G W0 m) :: ll) (.ref (G.xc e.c)) dd σ H := by
      intro dd hw
      unfold hGoK at h
      split at h
      · rename_i q
        exact ⟨true, e2 _ (lookup_mem q), fun _ a _ => ⟨φ, ρ, S, em, rs, noX_out h⟩, fun z => nomatch z⟩
      · rename_i q
        exact ⟨false, e2 _ (lookup_mem q), (fun z => nomatch z), fun _ => hw h⟩
      · exact h.elim
    unfold XW
    have h3 := h2 W D e φ ρ S σ H em rs
    unfold XW at h3
    cases hv : e.v with
    | none => rw [hv] at h3; exact key none h3
    | some y => rw [hv] at h3; exact fun dd v a b => key (some dd) fun hf => h3 hf dd v a b
  | @again x l m b₀ np pos' pr hds hs F hg hdb hsu r ih =>
    obtain ⟨ll, h1, h2⟩ := ih
    obtain ⟨cv, e1, e2⟩ := F.ex
    refine ⟨(cv, .again fun _ _ _ => wpS X.K G W0 m) :: ll, .again ⟨hg, hdb, .inl e1⟩ (fun a oe cls d pn _ _ => hsu a oe pn) h1, fun W D e φ ρ S σ H em rs h => ?_⟩
    unfold XW
    have h3 := h2 W D e φ ρ S σ H em rs
    unfold XW at h3
    unfold hGoK at h
    cases hv : e.v with
    | none =>
      rw [hv] at h3
      show wK X.K W D ((cv, .again fun _ _ _ => wpS X.K G W0 m) :: ll) (.ref (G.xc e.c)) none σ H
      split at h
      · rename_i q
        unfold hDo agE at h
        rw [hv] at h
        exact ⟨true, e2 _ (lookup_mem q), fun _ a _ => ⟨φ, ρ, S, em, rs, ag_out hv h⟩, fun z => nomatch z⟩
      · rename_i q
        exact ⟨false, e2 _ (lookup_mem q), (fun z => nomatch z), fun _ => h3 h⟩
      · exact h.elim
    | some y =>
      rw [hv] at h3
      intro dd v a b
      show wK X.K W D ((cv, .again fun _ _ _ => wpS X.K G W0 m) :: ll) (.ref (G.xc e.c)) (some dd) σ H
      split at h
      · unfold hDo agE at h
        rw [hv] at h
        exact h.elim
      · rename_i q
        exact ⟨false, e2 _ (lookup_mem q), (fun z => nomatch z), fun _ => h3 h dd v a b⟩
      · exact h.elim
  | @as_ x n l m b₀ suite i np pos' hds hs F hg hdb hi hln hsu r ih =>
    obtain ⟨ll, h1, h2⟩ := ih
    obtain ⟨cv, e1, e2⟩ := F.ex
    refine ⟨(cv, .as_ i (wpS X.K G W0 m)) :: ll, .as_ ⟨hg, hdb, .inl e1⟩ hi hln (fun a pn => hsu a pn) h1, fun W D e φ ρ S σ H em rs h => ?_⟩
    unfold XW
    have h3 := h2 W D e φ ρ S σ H em rs
    unfold XW at h3
    unfold hGoK at h
    cases hv : e.v with
    | none =>
      rw [hv] at h3
      show wK X.K W D ((cv, .as_ i (wpS X.K G W0 m)) :: ll) (.ref (G.xc e.c)) none σ H
      split at h
      · rename_i q
        unfold hDo xvE at h
        rw [hv] at h
        refine ⟨true, e2 _ (lookup_mem q), fun _ a na => ?_, fun z => nomatch z⟩
        exact ⟨φ, _, S, em.other na, (rs.ext (ext_new na)).set i (.xv0 (emb_out em na) upd_same), as_out (ext_new na) h⟩
      · rename_i q
        exact ⟨false, e2 _ (lookup_mem q), (fun z => nomatch z), fun _ => h3 h⟩
      · exact h.elim
    | some y =>
      rw [hv] at h3
      intro dd v ea rv
      show wK X.K W D ((cv, .as_ i (wpS X.K G W0 m)) :: ll) (.ref (G.xc e.c)) (some dd) σ H
      split at h
      · rename_i q
        unfold hDo xvE at h
        rw [hv] at h
        dsimp only at h
        split at h
        · rename_i hp
          refine ⟨true, e2 _ (lookup_mem q), fun _ a na => ?_, fun z => nomatch z⟩
          have nd : dd ≠ a := fun z => by rw [z, na] at ea; cases ea
          exact ⟨φ, _, S, em.other na, (rs.ext (ext_new na)).set i (.xv1 (emb_out em na) upd_same (emb_outx em ea) (by rw [upd_ne nd]; exact ea) (rv.ext (ext_new na)) hp), as_out (ext_new na) h⟩
        · exact h.elim
      · rename_i q
        exact ⟨false, e2 _ (lookup_mem q), (fun z => nomatch z), fun _ => h3 h dd v ea rv⟩
      · exact h.elim
theorem s_tryK {body : List Stmt} {h₀ : ExceptHandler} {hds : List ExceptHandler} {mb : MSt} {hs : List (List (Xc × Bool) × HkM)} {pos : Pos} (d : DX X G W k)
    (hb : ∀ (W' : WX) (pn : List (Addr × Obj)) (xe : Value → Shared → Prop), DX (X.tr pn xe) G W' k → PSs (X.tr pn xe) body (wpS X.K G W' mb)) (hh : HsK X G (h₀ :: hds) hs)
    (hpa : ∀ hd : Option Value, PassesOwnAt (model X.prog X.w) (X.A.mark hd) X.A X.env X.xe) (hs' : X.stack = X.env :: X.outer := by rfl) (hf : X.env.frame = some X.env.locals := by rfl) (hex : X.ex = [] := by rfl) : PS X (.Try body (h₀ :: hds) [] [] pos) (wpS X.K G W (sTryK mb hs)) := by
  obtain ⟨l, h1, h2⟩ := hsk_ok hh
  refine ps_conv (ps_try_K hs' hf d.nd hex d.tk hpa (tb := fun W' => wpS X.K G W' mb) (fun W' pn xe tk pp => hb W' pn xe ⟨d.calm, tk, pp, d.hr, d.nd⟩) h1) ?_
  rintro D σ H ⟨φ, ρ, S, em, rs, h⟩
  refine ⟨φ, ρ, S, em, rs, ?_⟩
  unfold sTryK at h
  cases q : mb ρ S with
  | nx ρ' S' => rw [q] at h; exact h
  | rt v S' => rw [q] at h; exact h
  | bk ρ' S' => rw [q] at h; exact h
  | ct ρ' S' => rw [q] at h; exact h
  | stuck => rw [q] at h; exact h
  | xc e ρ' S' =>
    rw [q] at h
    intro φ' σ' H' x em' rs'
    exact h2 W D e φ' ρ' S' σ' H' em' rs' (outS.from x h)
/-! ### isinstance of an exception that is held -/
def rIsX (K : PySem.W.Frag) : List V → Hp → VK → Prop := fun xs H Q => ∃ (a A : Addr) (d : Option Addr) (c : V) (cv : Value) (b : Bool), xs = [.ref a, c] ∧ H a = some (ExK (.ref A) d a) ∧ (∀ dd, d = some dd → ∃ fs, H dd = some (.xd fs)) ∧ ExcC K A ∧ (∀ u, RelV c u → u = cv) ∧
  PySem.W.kitOne K (.ref A) cv = some b ∧ Q (.bl b) H
theorem call_isX {X : Cx} : CallR X (.builtin "isinstance") (rIsX X.K) := by
  intro pins s σ H xs us Q I r h
  obtain ⟨a, A, d, c, cv, b, rfl, ha, hd, C, hcv, e, q⟩ := h
  cases r with
  | cons rx rr =>
    cases rr with
    | cons rt rr =>
      cases rr
      cases rx
      have ec := hcv _ rt
      subst ec
      obtain ⟨⟨oe, vs, hget, hz, hv⟩, _, _⟩ := I.hok a _ ha
      have cls : (PySem.W.clsIn X.K A).isSome = true := by
        obtain ⟨cd, hc, _⟩ := PySem.W.any_some C.hd
        rw [hc]; rfl
      have J : ∃ od, PySem.W.InstAt s.heap a oe A od := by
        cases d with
        | none =>
          refine ⟨none, ?_⟩
          obtain ⟨oc, od, oda, osl⟩ := oe
          obtain ⟨h1, h2⟩ := hz
          dsimp only at h1 h2 hv
          subst h1 h2 hv
          exact ⟨hget, rfl, rfl, trivial⟩
        | some dd =>
          obtain ⟨fs, hx⟩ := hd dd rfl
          have hx' : ObjOk X.prog X.w H s.heap dd (.xd fs) := I.hok dd _ hx
          obtain ⟨mA, hns, _⟩ := hx'
          obtain ⟨od, ho, _⟩ := lookIn_ns hns
          exact ⟨some od, hget, hz.1, by unfold PySem.W.notCls; rw [hv] <;> rfl, by rw [hz.2]; exact ho⟩
      obtain ⟨od, J⟩ := J
      exact PySem.W.kia_one (PySem.W.kitx_exc cls C.hg C.hk C.hs C.ha C.hn C.ht C.hm) I.kIn J e (fun z => nomatch z) fun tk => ⟨.bl b, H, I.kept (t' := tk) fun _ _ z => z, rfl, q⟩
def isX (tab : List (Xc × Bool)) (d : D) (S : Sto) : Res D := match d with
  | .xv c _ => (match tab.lookup c with
    | some b => .ok (.bl b) S
    | none => .stuck)
  | _ => .stuck
def mIsX (tab : List (Xc × Bool)) (m : MEx) : MEx := fun ρ S => (m ρ S).bind (isX tab)
structure IsX (K : PySem.W.Frag) (G : Ga) (tab : List (Xc × Bool)) (cv : Value) : Prop where
  ex : ∀ p ∈ tab, ExcC K (G.xc p.1) ∧ PySem.W.kitOne K (.ref (G.xc p.1)) cv = some p.2
/-- an own exception class -/
structure IsXO (K : PySem.W.Frag) (mg : Str → Option Value) (G : Ga) (x : Str) (tab : List (Xc × Bool)) : Prop where
  ex : ∃ A, mg x = some (.ref A) ∧ IsX K G tab (.ref A)
theorem isX_out {tab : List (Xc × Bool)} {cv : Value} {cV : V} {d : D} {v : V} {φ : List Addr} {S : Sto} {σ : L2.St} {H : Hp} {Q : VK} (i : IsX X.K G tab cv) (hcv : ∀ u, RelV cV u → u = cv) (em : Emb X.K G φ S H) (rv : RV X.K G H φ d v) (h : outR X.K G W (rE X.K G) (isX tab d S) φ σ H Q) : rIsX X.K [v, cV] H Q := by
  unfold isX at h
  split at h
  · split at h
    · rename_i c xs b e
      obtain ⟨k1, k2⟩ := i.ex _ (lookup_mem e)
      have q := outR.ok (R := rE X.K G) h em .bl
      cases rv with
      | xv0 n e1 => exact ⟨_, _, none, cV, cv, b, rfl, e1, (fun _ z => nomatch z), k1, hcv, k2, q⟩
      | xv1 n e1 m e2 r p => exact ⟨_, _, some _, cV, cv, b, rfl, e1, (fun dd z => by cases z; exact ⟨_, e2⟩), k1, hcv, k2, q⟩
    · exact h.elim
  · exact h.elim
theorem d_isX {x : Str} {tab : List (Xc × Bool)} {e : Expr} {m : MEx} {p p2 pos : Pos} (hmi : X.mg "isinstance" = none) (io : IsXO X.K X.mg G x tab) (he : PE X e (wpE X.K G W m)) (hgi : Gl X "isinstance" := by rfl) (hg : Gl X x := by rfl)
    (hdb : (x == ("__debug__" : Str)) = false := by decide) (hs : starEach (e :: [.Name x p2]) X.env = (false, eval e X.env) :: starEach [.Name x p2] X.env := by rfl) (hpl : (backTo pos (starEach [.Name x p2] X.env)).any (·.1) = false := by rfl) :
    PE X (.Call (.Name "isinstance" p) [e, .Name x p2] [] pos) (wpE X.K G W (mIsX tab m)) := by
  obtain ⟨A, hm, i⟩ := io.ex
  refine pe_conv (pe_callB call_isX hgi hmi (by decide +kernel) (pa_cons he (pa_cons (pe_glob (v := .ref A) hg hm rfl hdb) pa_nil) hs) (by decide) (by decide) hs hpl) ?_
  rintro σ H Q ⟨φ, ρ, S, em, rs, h⟩
  refine ⟨φ, ρ, S, em, rs, h.bind fun d S1 φ1 v H1 x em1 rv h1 => isX_out i (fun u z => z) em1 rv h1⟩
theorem d_isXB {x : Str} (T : String) {tab : List (Xc × Bool)} {e : Expr} {m : MEx} {p p2 pos : Pos} (hmi : X.mg "isinstance" = none) (hm : X.mg x = none) (i : IsX X.K G tab (.type T)) (he : PE X e (wpE X.K G W m)) 
    (hv : bootBuiltins x = some (.type T) := by decide +kernel) (hgi : Gl X "isinstance" := by rfl) (hg : Gl X x := by rfl) (hn : x ≠ "__name__" := by decide) (hdb : (x == ("__debug__" : Str)) = false := by decide)
    (hs : starEach (e :: [.Name x p2]) X.env = (false, eval e X.env) :: starEach [.Name x p2] X.env := by rfl) (hpl : (backTo pos (starEach [.Name x p2] X.env)).any (·.1) = false := by rfl) :
    PE X (.Call (.Name "isinstance" p) [e, .Name x p2] [] pos) (wpE X.K G W (mIsX tab m)) := by
  refine pe_conv (pe_callB call_isX hgi hmi (by decide +kernel) (pa_cons he (pa_cons (pe_bltn (v := .ty T) hg hm hv rfl hn hdb) pa_nil) hs) (by decide) (by decide) hs hpl) ?_
  rintro σ H Q ⟨φ, ρ, S, em, rs, h⟩
  refine ⟨φ, ρ, S, em, rs, h.bind fun d S1 φ1 v H1 x em1 rv h1 => isX_out i (fun u z => z) em1 rv h1⟩
/-! ### e.row of an exception that is held -/
structure RowX (K : PySem.W.Frag) (G : Ga) (cs : List Xc) : Prop where
  ex : ∀ c ∈ cs, XfC K (G.xc c) ∧ PySem.W.findIn K (.ref (G.xc c)) "row" = some none
def rowX (cs : List Xc) (d : D) (S : Sto) : Res D := match d with
  | .xv c [x] => if c ∈ cs then .ok x S else .stuck
  | _ => .stuck
def mRow (cs : List Xc) (m : MEx) : MEx := fun ρ S => (m ρ S).bind (rowX cs)
theorem d_row {cs : List Xc} {e : Expr} {m : MEx} {pos : Pos} (R : RowX X.K G cs) (he : PE X e (wpE X.K G W m)) (hb : attributeBase e "row" X.env (eval e X.env) = eval e X.env := by rfl) : PE X (.Attribute e "row" pos) (wpE X.K G W (mRow cs m)) := by
  refine ⟨fun pins s σ H Q I ⟨φ, ρ, S, em, rs, h⟩ => ?_⟩
  have w : wpE X.K G W m σ H fun x H1 => ∃ (c : Xc) (a dd : Addr) (v : V), c ∈ cs ∧ x = .ref a ∧ H1 a = some (ExK (.ref (G.xc c)) (some dd) a) ∧ H1 dd = some (.xd [(("row" : Str), v)]) ∧ Q v H1 := by
    refine ⟨φ, ρ, S, em, rs, h.bind fun d S1 φ1 v H1 x em1 rv h1 => ?_⟩
    unfold rowX at h1
    split at h1
    · rename_i c y
      split at h1
      · rename_i hc
        cases rv with
        | xv1 n e1 mm e2 r p => exact ⟨c, _, _, _, hc, rfl, e1, e2, outR.ok (R := rE X.K G) h1 em1 r⟩
      · exact h1.elim
    · exact h1.elim
  refine attr_of hb (thn (he.run pins s σ H _ I w) fun u s1 hh => ?_)
  obtain ⟨x, H1, I1, rx, c, a, dd, v, hc, ex, ea, ed, q⟩ := hh
  subst ex
  obtain rfl : u = Value.ref a := rx
  obtain ⟨T, hno⟩ := R.ex c hc
  obtain ⟨⟨oe, vs, hget, hz, hv⟩, _, _⟩ := I1.hok a _ ea
  have hx : ObjOk X.prog X.w H1 s1.heap dd (.xd [(("row" : Str), v)]) := I1.hok dd _ ed
  obtain ⟨mA, hns, hr⟩ := hx
  obtain ⟨od, ho, hl⟩ := lookIn_ns hns
  obtain ⟨u, hu, ru⟩ := RelO.some_of (v := v) (o := mA "row") (by have z := hr "row"; simpa [List.lookup] using z)
  have J : PySem.W.InstAt s1.heap a oe (G.xc c) (some od) := ⟨hget, hz.1, by unfold PySem.W.notCls; rw [hv] <;> rfl, by rw [hz.2]; exact ho⟩
  exact HandSPX.exc_get I1.kIn J T.ga T.gg T.exC (PySem.W.findObj_own T.hdC hno rfl (by rw [hl, hu])) (handed_of ru) ⟨v, H1, I1.tok _, ru, q⟩
end
/-! ### list.count, flat things -/
section
variable {X : Cx} {G : Ga} {W : WX} {k : Nat}
theorem eqU_count {x : V} : ∀ {ys : List V} {us : List Value}, Vals ys us → ys.all flatV = true → us.countP (eqU x) = ys.countP (fun y => eqV y x)
  | _, _, .nil, _ => rfl
  | y :: ys, u :: us, .cons r t, f => by
    rw [List.all_cons, Bool.and_eq_true] at f
    rw [List.countP_cons, List.countP_cons, eqU_count t f.2, eqU_of r f.1]
def rCountF (K : PySem.W.Frag) : V → List V → Hp → VK → Prop := fun x xs H Q => ∃ (a : Addr) (ys : List V) (y : V), x = V.ref a ∧ xs = [y] ∧ SqL K H a ys ∧ flatV y = true ∧ ys.all flatV = true ∧ Q (.int (ys.countP (fun z => eqV z y) : Nat)) H
theorem mt_countF : MtR X "list.count" (rCountF X.K) := by
  intro pins s σ H x xs v us Q I rx rxs h
  obtain ⟨a, ys, y, rfl, rfl, hs, fy, fys, q⟩ := h
  cases rx
  cases rxs with
  | cons ry rt =>
    rename_i uy ut
    cases rt
    obtain ⟨its, rv, ⟨⟨cls, dd, data, sl⟩, n, ho, hc, hdn, hd⟩, hlen⟩ := I.list hs
    simp only at hc hd
    subst hc hd
    refine call_meets PySem.F.slot_list_count ⟨_, ho, rfl⟩ PySem.F.entry_list_count (PySem.F.args_list_count_2 _ _)
      (SeqAt.list_countAt a its.toArray n dd sl uy (eqU y)) ⟨ho, fun u' hu' => mem_eqAt ry fy rv fys u' (by simpa using hu'), ?_⟩
    have ec : its.toArray.toList.countP (eqU y) = ys.countP (fun z => eqV z y) := eqU_count rv fys
    refine ⟨.int (ys.countP (fun z => eqV z y) : Nat), H, I.tok _, ⟨s.toks, ?_⟩, q⟩
    show Value.int ((its.toArray.toList.countP (eqU y) : Nat) : Int) s.toks = _
    rw [ec]
def lCount (d : D) (ds : List D) (S : Sto) : Res D := match lstO S d, ds with
  | some xs, [y] => if flatD y = true ∧ xs.all flatD = true then .ok (.int (xs.countP (fun z => eqFlat z y) : Nat)) S else .stuck
  | _, _ => .stuck
theorem eqFlat_count {K : PySem.W.Frag} {H : Hp} {φ : List Addr} {y : D} {v : V} (r : RV K G H φ y v) (f : flatD y = true) : ∀ {ds : List D} {vs : List V}, RVs K G H φ ds vs → ds.all flatD = true → vs.countP (fun z => eqV z v) = ds.countP (fun z => eqFlat z y)
  | _, _, .nil, _ => rfl
  | _, _, .cons a b, g => by
    rw [List.all_cons, Bool.and_eq_true] at g
    rw [List.countP_cons, List.countP_cons, eqFlat_count r f b g.2, eqFlat_ok a r g.1 f]
theorem s_countF {K : PySem.W.Frag} : MetS K G W lCount (rCountF K) := by
  intro φ S σ H d ds v vs Q em r rs h
  unfold lCount at h
  split at h
  · rename_i xs y es
    split at h
    · rename_i hf
      obtain ⟨a, ws, rfl, sq, rv⟩ := lst_ok em r es
      cases rs with
      | @cons _ yv _ _ ry rn =>
        cases rn
        refine ⟨a, ws, yv, rfl, rfl, sq, flat_ok ry hf.1, flat_all rv hf.2, ?_⟩
        rw [eqFlat_count ry hf.1 rv hf.2]
        exact outR.ok (R := rE K G) h em .int
    · exact h.elim
  · exact h.elim
end
/-! ### steps -/
section
variable {b m : MSt} {me : MEx} {ρ : Rho} {S : Sto} {d y : D} {xs : List D} {e : Ex} {c : Xc} {v : Option D} {h : HkM} {hs r : List (List (Xc × Bool) × HkM)} {l tab : List (Xc × Bool)} {i : Nat} {f : D → SR}
def kTryK (r : SR) (hs : List (List (Xc × Bool) × HkM)) : SR := match r with
  | .xc e ρ' S' => hGoK hs e ρ' S'
  | r => r
theorem r_tryK : sTryK b hs ρ S = kTryK (b ρ S) hs := by unfold sTryK kTryK; rfl
theorem kTryK_nx : kTryK (.nx ρ S) hs = .nx ρ S := rfl
theorem kTryK_rt : kTryK (.rt d S) hs = .rt d S := rfl
theorem kTryK_xc : kTryK (.xc e ρ S) hs = hGoK hs e ρ S := rfl
def kHdK (o : Option Bool) (h : HkM) (r : List (List (Xc × Bool) × HkM)) (e : Ex) (ρ : Rho) (S : Sto) : SR := match o with
  | some true => hDo h e ρ S
  | some false => hGoK r e ρ S
  | none => .stuck
theorem r_hGoK : hGoK ((l, h) :: r) e ρ S = kHdK (l.lookup e.c) h r e ρ S := by unfold kHdK; rw [hGoK] <;> rfl
theorem r_hGoK0 : hGoK [] e ρ S = .xc e ρ S := rfl
theorem kHdK_t : kHdK (some true) h r e ρ S = hDo h e ρ S := rfl
theorem kHdK_f : kHdK (some false) h r e ρ S = hGoK r e ρ S := rfl
theorem r_hDo1 : hDo (.run m) e ρ S = noXS (m ρ S) := rfl
theorem r_hDo2 : hDo (.again m) ⟨c, none⟩ ρ S = agS ⟨c, none⟩ (m ρ S) := rfl
theorem r_hDo3 : hDo (.as_ i m) ⟨c, none⟩ ρ S = asS i (m (ρ.set i (some (.xv c []))) S) := rfl
theorem r_hDo4 (hp : d.pureB = true) : hDo (.as_ i m) ⟨c, some d⟩ ρ S = asS i (m (ρ.set i (some (.xv c [d]))) S) := by
  unfold hDo xvE
  exact if_pos hp
theorem agS_nx : agS e (.nx ρ S) = .xc e ρ S := rfl
theorem agS_rt : agS e (.rt d S) = .rt d S := rfl
theorem asS_nx : asS i (.nx ρ S) = .nx (ρ.set i none) S := rfl
theorem asS_rt : asS i (.rt d S) = .rt d S := rfl
theorem r_isX : mIsX tab me ρ S = (me ρ S).bind (isX tab) := rfl
theorem isX_ok {t : Bool} (h : tab.lookup c = some t) : isX tab (.xv c xs) S = .ok (.bl t) S := by
  unfold isX
  dsimp only
  rw [h]
theorem r_row {cs : List Xc} : mRow cs me ρ S = (me ρ S).bind (rowX cs) := rfl
theorem lCount_ok (h : lstO S d = some xs) (h1 : flatD y = true) (h2 : xs.all flatD = true) : lCount d [y] S = .ok (.int (xs.countP (fun z => eqFlat z y) : Nat)) S := by
  unfold lCount
  rw [h]
  exact if_pos ⟨h1, h2⟩
end
end MP

set_option Elab.async false
set_option linter.all false
set_option maxRecDepth 100000
set_option maxHeartbeats 4000000
namespace MP
open PySem PySem.Spec PyProof.Rows L2
section
variable {X : Cx} {G : Ga} {W : WX} {k : Nat}
/-! ### a statement that is never reached -/
def sNot : MSt := fun _ _ => .stuck
theorem s_not {st : Stmt} : PS X st (wpS X.K G W sNot) := ⟨fun pins s σ H D I h => by
  obtain ⟨φ, ρ, S, em, rs, h⟩ := h
  exact h.elim⟩
/-! ### str(text), int(text) -/
def cStrS (ds : List D) (S : Sto) : Res D := match ds with
  | [.str z] => .ok (.str z) S
  | ds => cStr ds S
theorem s_strS {K : PySem.W.Frag} : CallS K G W cStrS (fun xs H Q => (∃ i, xs = [.int i] ∧ i.natAbs.log2 < 1920 ∧ Q (.str (toString i)) H) ∨ ∃ a, xs = [.str a] ∧ Q (.str a) H) := by
  intro φ S σ H ds vs Q em r h
  unfold cStrS at h
  split at h
  · cases r with
    | cons a b =>
      cases b
      cases a
      exact .inr ⟨_, rfl, outR.ok (R := rE K G) h em .str⟩
  · exact .inl (s_strc φ S σ H _ vs Q em r h)
theorem cr_strS : CallR X (.type "str") (fun xs H Q => (∃ i, xs = [.int i] ∧ i.natAbs.log2 < 1920 ∧ Q (.str (toString i)) H) ∨ ∃ a, xs = [.str a] ∧ Q (.str a) H) := call_str_int.or SkE.call_str_str
def cIntT (ds : List D) (S : Sto) : Res D := match ds with
  | [.str z] => match PySem.intText? z with
    | some n => if z.length ≤ 640 then .ok (.int n) S else .stuck
    | none => .stuck
  | _ => .stuck
def rIntT : List V → Hp → VK → Prop := fun xs H Q => ∃ z n, xs = [.str z] ∧ PySem.intText? z = some n ∧ z.length ≤ 640 ∧ Q (.int n) H
theorem call_intT : CallR X (.type "int") rIntT := by
  intro pins s σ H xs us Q I r h
  obtain ⟨z, n, rfl, e, hl, q⟩ := h
  obtain ⟨u, rfl, t, rfl⟩ := vals1 r
  exact PySem.W.KIN.call_text e hl ⟨.int n, H, I.tok _, ⟨_, rfl⟩, q⟩
theorem s_intT {K : PySem.W.Frag} : CallS K G W cIntT rIntT := by
  intro φ S σ H ds vs Q em r h
  unfold cIntT at h
  split at h
  · split at h
    · rename_i n e
      split at h
      · rename_i hl
        cases r with
        | cons a b =>
          cases b
          cases a
          exact ⟨_, n, rfl, e, hl, outR.ok (R := rE K G) h em .int⟩
      · exact h.elim
    · exact h.elim
  · exact h.elim
/-! ### one sign in a text -/
def inS1 (neg : Bool) (x y : D) (S : Sto) : Res D := match x, y with
  | .str a, .str b => match a.cps.toList with
    | [c] => .ok (.bl (if neg = true then !decide (c ∈ b.cps.toList) else decide (c ∈ b.cps.toList))) S
    | _ => .stuck
  | _, _ => .stuck
def rInS1 (neg : Bool) : R2 := match neg with
  | true => rNotInS
  | false => rInS
theorem s_inS1 {K : PySem.W.Frag} {neg : Bool} : OpS K G W (inS1 neg) (rInS1 neg) := by
  intro φ S σ H d1 d2 v1 v2 Q em r1 r2 h
  unfold inS1 at h
  split at h
  · rename_i a b
    split at h
    · rename_i c e
      cases r1
      cases r2
      have ea : a = ⟨#[c]⟩ := Str.ext' (Array.toList_inj.mp e)
      subst ea
      cases neg with
      | true => exact ⟨c, b, rfl, rfl, outR.ok (R := rE K G) h em .bl⟩
      | false => exact ⟨c, b, rfl, rfl, outR.ok (R := rE K G) h em .bl⟩
    · exact h.elim
  · exact h.elim
/-! ### a <= b <= c -/
def mChn (f g : D → D → Sto → Res D) (a b c : MEx) : MEx := fun ρ S => (a ρ S).bind fun x S1 => (b ρ S1).bind fun y S2 => (f x y S2).bind fun z S3 => match z with
  | .bl true => (c ρ S3).bind fun w S4 => g y w S4
  | .bl false => .ok (.bl false) S3
  | _ => .stuck
theorem chn {K : PySem.W.Frag} {f g : D → D → Sto → Res D} {r r' : R2} {a b c : MEx} (hf : OpS K G W f r) (hg : OpS K G W g r') (σ : L2.St) (H : Hp) (Q : VK) (h : wpE K G W (mChn f g a b c) σ H Q) :
    tChain r r' (wpE K G W a) (wpE K G W b) (wpE K G W c) σ H Q := by
  obtain ⟨φ, ρ, S, em, rs, h⟩ := h
  refine ⟨φ, ρ, S, em, rs, h.bind fun d1 S1 φ1 v1 H1 x1 em1 rv1 h1 => ?_⟩
  refine ⟨φ1, ρ, S1, em1, rs.ext x1, h1.bind fun d2 S2 φ2 v2 H2 x2 em2 rv2 h2 => ?_⟩
  refine hf φ2 S2 σ H2 d1 d2 v1 v2 _ em2 (RV.ext x2 rv1) rv2 (h2.bind fun d3 S3 φ3 v3 H3 x3 em3 rv3 h3 => ?_)
  cases rv3 with
  | @bl t =>
    refine ⟨t, rfl, ?_⟩
    cases t with
    | true =>
      rw [if_pos rfl]
      refine ⟨φ3, ρ, S3, em3, ((rs.ext x1).ext x2).ext x3, h3.bind fun d4 S4 φ4 v4 H4 x4 em4 rv4 h4 => ?_⟩
      exact hg φ4 S4 σ H4 d2 d4 v2 v4 Q em4 (RV.ext x4 (RV.ext x3 rv2)) rv4 h4
    | false =>
      rw [if_neg Bool.false_ne_true]
      exact outR.ok (R := rE K G) h3 em3 .bl
  | _ => exact h3.elim
theorem t_chn {a b c : Expr} {op op' : CmpOp} {f g : D → D → Sto → Res D} {r r' : R2} {ma mb mc : MEx} {pos : Pos} (ho : OpR X (compareOp op) r) (ho' : OpR X (compareOp op') r') (hf : OpS X.K G W f r) (hg : OpS X.K G W g r')
    (ha : PE X a (wpE X.K G W ma)) (hb : PE X b (wpE X.K G W mb)) (hc : PE X c (wpE X.K G W mc)) (hm : lastMarks [op, op'] [b, c] = false := by with_unfolding_all rfl) : PT X (.Compare a [op, op'] [b, c] pos) (wpT X.K G W (mTest (mChn f g ma mb mc))) :=
  pt_conv (pt_chain ho ho' ha hb hc hm) (test (chn hf hg))
/-! ### sep.join(texts) -/
def strsOf : List D → Option (List Str)
  | [] => some []
  | .str a :: r => (strsOf r).map (a :: ·)
  | _ => none
theorem rvs_strs' {K : PySem.W.Frag} {H : Hp} {φ : List Addr} : ∀ {ds : List D} {vs : List V} {ys : List Str}, RVs K G H φ ds vs → strsOf ds = some ys → vs = ys.map V.str
  | _, _, _, .nil, e => by cases e; rfl
  | _, _, _, .cons (d := d) a b, e => by
    cases a with
    | str =>
      unfold strsOf at e
      obtain ⟨zs, e1, rfl⟩ := Option.map_eq_some_iff.mp e
      rw [rvs_strs' b e1]
      rfl
    | _ => cases e
def joinD (d : D) (ds : List D) (S : Sto) : Res D := match d, ds with
  | .str a, [e] => match items S e with
    | some xs => match strsOf xs with
      | some ys => if (ys.map (·.length)).sum + ys.length * a.length ≤ 16777216 then .ok (.str (Txt.join a ys)) S else .stuck
      | none => .stuck
    | none => .stuck
  | _, _ => .stuck
def rJoin (K : PySem.W.Frag) : V → List V → Hp → VK → Prop := fun x xs H Q => ∃ a p, ∃ ys : List Str, x = .str a ∧ xs = [.ref p] ∧ (SqL K H p (ys.map V.str) ∨ SqT K H p (ys.map V.str)) ∧
    (ys.map (·.length)).sum + ys.length * a.length ≤ 16777216 ∧ Q (.str (Txt.join a ys)) H
theorem s_join {K : PySem.W.Frag} : MetS K G W joinD (rJoin K) := by
  intro φ S σ H d ds v vs Q em r rs h
  unfold joinD at h
  split at h
  · rename_i a e
    split at h
    · rename_i xs ex
      split at h
      · rename_i ys ey
        split at h
        · rename_i hz
          cases r
          cases rs with
          | cons q n =>
            cases n
            obtain ⟨p, ws, rfl, hs, rv⟩ := items_ok em q ex
            rw [rvs_strs' rv ey] at hs
            exact ⟨a, p, ys, rfl, rfl, hs, hz, outR.ok (R := rE K G) h em .str⟩
        · exact h.elim
      · exact h.elim
    · exact h.elim
  · exact h.elim
theorem tyStr {K : PySem.W.Frag} {φ : List Addr} {S : Sto} {H : Hp} {d : D} {v : V} (em : Emb K G φ S H) (r : RV K G H φ d v) (h : isStr d S = true) : tyV K "str" v H := by
  cases d with
  | str a => cases r; exact rfl
  | _ => cases h
/-! ### text.split(sep) -/
def splD (tr : Bool) (d : D) (ds : List D) (S : Sto) : Res D := match d, ds with
  | .str a, [.str b] => if (b.length == 0) = false ∧ a.length + 2 ≤ sizeLine then newL tr ((Txt.split a b).map .str) S else .stuck
  | _, _ => .stuck
def rSplit : V → List V → Hp → VK → Prop := fun x xs H Q => ∃ a b, x = .str a ∧ xs = [.str b] ∧ (b.length == 0) = false ∧ a.length + 2 ≤ sizeLine ∧ rNewStrs (Txt.split a b) H Q
theorem s_split {K : PySem.W.Frag} {tr : Bool} : MetS K G W (splD tr) rSplit := by
  intro φ S σ H d ds v vs Q em r rs h
  unfold splD at h
  split at h
  · rename_i a b
    split at h
    · rename_i hz
      cases r
      cases rs with
      | cons q n =>
        cases n
        cases q
        exact ⟨a, b, rfl, rfl, hz.1, hz.2, fun p hp => h.newL em rvs_strs hp⟩
    · exact h.elim
  · exact h.elim
/-! ### a dict of the text's top, texts to texts -/
def kvS (kvs : List (Str × Str)) (x : Str) : Option Str := (kvs.find? fun p => decide (p.1 = x)).map (·.2)
structure DcS (P : Program) (w : World) (K : PySem.W.Frag) (mg : Str → Option Value) (x : Str) (kvs : List (Str × Str)) : Prop where
  ex : ∃ a, mg x = some (.ref a) ∧ (a == sysModules) = false ∧ ∃ f : Str → Option Value, (∀ h, K.In h → h.MapOf (strKind P w) a f) ∧ ∀ z, (f z).isSome = (kvS kvs z).isSome ∧ ∀ i, kvS kvs z = some i → ∃ t, f z = some (.str i t)
def kGetS (kvs : List (Str × Str)) (x y : D) (S : Sto) : Res D := match x with
  | .str z => match kvS kvs z with
    | some s => .ok (.str s) S
    | none => .ok y S
  | _ => .stuck
theorem d_kgetS {x : Str} {i z : Expr} {mi mz : MEx} {kvs : List (Str × Str)} {p apos cpos : Pos} (g : DcS X.prog X.w X.K X.mg x kvs) (hi : PE X i (wpE X.K G W mi)) (hz : PE X z (wpE X.K G W mz)) (m : M2 X (.Name x p) "get" apos i z cpos := by exact ⟨rfl, rfl, rfl, rfl⟩) (hg : Gl X x := by rfl)
    (hd : (x == ("__debug__" : Str)) = false := by decide) : PE X (.Call (.Attribute (.Name x p) "get" apos) [i, z] [] cpos) (wpE X.K G W (mOp2 (kGetS kvs) mi mz)) := by
  obtain ⟨a, hm', hs, f, hf, hk⟩ := g.ex
  refine ⟨fun pins s σ H Q I h => ?_⟩
  obtain ⟨φ, ρ, S, em, rs, h⟩ := h
  have ho : PE X (.Name x p) (tC (.ref a)) := pe_glob hg hm' (show RelV (.ref a) (.ref a) from rfl) hd
  refine wpAny_Call_method m.base m.few m.line PySem.F.plainAttrs_dict PySem.F.slot_dict_get PySem.F.type_dict_get (thn (ho.run pins s σ H (fun v H1 => v = .ref a ∧ H1 = H) I ⟨rfl, rfl⟩) fun u s1 hh => ?_)
  obtain ⟨v, H1, I1, rv, e1, e2⟩ := hh
  subst e1
  subst e2
  obtain rfl : u = Value.ref a := rv
  have mp := hf _ I1.kIn
  refine ⟨mp.typeIs, fun b q => ?_, ?_⟩
  · cases q
    obtain ⟨ob, _, _, h1, h2, _⟩ := mp
    exact ⟨ob, h1, h2.2.1⟩
  rw [m.trees]
  refine Calls.callWith_builtin rfl (Calls.evalArgs_plain (Calls.spliced_cons (thn (hi.run pins s1 σ H1 (fun v2 H2 => ∃ d1 S1 φ1, Ext φ H1 φ1 H2 ∧ Emb X.K G φ1 S1 H2 ∧ RV X.K G H2 φ1 d1 v2 ∧ outR X.K G W (rE X.K G) ((mz ρ S1).bind fun y S2 => kGetS kvs d1 y S2) φ1 σ H2 Q) I1 ⟨φ, ρ, S, em, rs, ?_⟩) fun iv s2 hh => ?_)))
  · exact h.bind fun d1 S1 φ1 v1 H2 x1 em1 rv1 h1 => ⟨d1, S1, φ1, x1, em1, rv1, h1⟩
  obtain ⟨y, H2, I2, ry, d1, S1, φ1, x1, em1, rv1, h1⟩ := hh
  refine Calls.spliced_cons (thn (hz.run pins s2 σ H2 (fun v3 H3 => ∃ d2 S2 φ2, Ext φ1 H2 φ2 H3 ∧ Emb X.K G φ2 S2 H3 ∧ RV X.K G H3 φ2 d2 v3 ∧ outR X.K G W (rE X.K G) (kGetS kvs d1 d2 S2) φ2 σ H3 Q) I2 ⟨φ1, ρ, S1, em1, rs.ext x1, ?_⟩) fun fv s3 hh => Calls.spliced_nil ?_)
  · exact h1.bind fun d2 S2 φ2 v2 H3 x2 em2 rv2 h2 => ⟨d2, S2, φ2, x2, em2, rv2, h2⟩
  obtain ⟨w', H3, I3, rw', d2, S2, φ2, x2, em2, rv2, h2⟩ := hh
  unfold kGetS at h2
  split at h2
  · rename_i q
    cases rv1
    obtain ⟨t, rfl⟩ := ry
    refine call_meetsIn PySem.F.slot_dict_get (hf _ I3.kIn).typeIs PySem.F.entry_dict_get (PySem.F.args_dict_get_3 _ _ _) (meets_dict_get_default (strKind X.prog X.w) a (strKind_is X.prog X.w q t) hs fv) ⟨_, hf _ I3.kIn, ?_⟩
    obtain ⟨k1, k2⟩ := hk q
    cases e : kvS kvs q with
    | some s0 =>
      rw [e] at h2
      obtain ⟨t2, e2⟩ := k2 s0 e
      rw [e2]
      exact ⟨.str s0, H3, I3.tok _, ⟨t2, rfl⟩, outR.ok (R := rE X.K G) h2 em2 .str⟩
    | none =>
      rw [e] at h2 k1
      have : f q = none := by
        cases z : f q with
        | none => rfl
        | some _ => rw [z] at k1; cases k1
      rw [this]
      exact ⟨w', H3, I3.tok _, rw', outR.ok (R := rE X.K G) h2 em2 rv2⟩
  · exact h2.elim
def itsS : List DictEntry → Option (List (Str × Str))
  | [] => some []
  | e :: r => match e.key, e.val with
    | .str x _, .str i _ => (itsS r).map ((x, i) :: ·)
    | _, _ => none
def dctS (K : PySem.W.Frag) (a : Addr) : Option (List (Str × Str)) := match K.lookup a with
  | some ⟨.type "dict", none, .dict es _, sl⟩ => if sl.size = 0 then itsS es.toList else none
  | _ => none
theorem its_okS {P : Params} : ∀ {es : List DictEntry} {kvs : List (Str × Str)}, itsS es = some kvs → es.map (·.hash) = kvs.map (fun p => PyData.keyHash P p.1) → PySem.W.KeysLit P es ∧
    ∀ z, (findBy Value.isStrOf es.toArray z).isSome = (kvS kvs z).isSome ∧ ∀ i, kvS kvs z = some i → ∃ t, findBy Value.isStrOf es.toArray z = some (.str i t)
  | [], kvs, h, _ => by
    cases h
    exact ⟨trivial, fun z => ⟨rfl, fun i h => by cases h⟩⟩
  | e :: r, kvs, h, hh => by
    unfold itsS at h
    split at h
    · rename_i x t i t2 ek ev
      obtain ⟨ks, h1, rfl⟩ := Option.map_eq_some_iff.mp h
      simp only [List.map_cons, List.cons.injEq] at hh
      obtain ⟨a1, a2⟩ := its_okS h1 hh.2
      refine ⟨⟨⟨x, t, ek, hh.1⟩, a2 |> fun _ => a1⟩, fun z => ?_⟩
      have fb : findBy Value.isStrOf (e :: r).toArray z = if x = z then some (.str i t2) else findBy Value.isStrOf r.toArray z := by
        unfold findBy
        rw [List.find?_toArray, List.find?_toArray, List.find?_cons, ek]
        by_cases hx : x = z
        · subst hx
          simp [Value.isStrOf, ev]
        · have : Value.isStrOf z (.str x t) = false := by simp [Value.isStrOf]; first | exact hx | exact fun h => hx h.symm
          rw [this, if_neg hx]
      have kk : kvS ((x, i) :: ks) z = if x = z then some i else kvS ks z := by
        unfold kvS
        rw [List.find?_cons]
        by_cases hx : x = z <;> simp [hx]
      rw [fb, kk]
      by_cases hx : x = z
      · rw [if_pos hx, if_pos hx]
        exact ⟨rfl, fun j hj => by cases hj; exact ⟨t2, rfl⟩⟩
      · rw [if_neg hx, if_neg hx]
        exact a2 z
    · cases h
theorem DcS.of {P : Program} {w : World} {K : PySem.W.Frag} {mg : Str → Option Value} {x : Str} {kvs : List (Str × Str)} {a : Addr} (hm : mg x = some (.ref a)) (hs : (a == sysModules) = false) (h1 : dctS K a = some kvs) (h2 : hashI K a = kvs.map fun p => PyData.keyHash w.params p.1) : DcS P w K mg x kvs := by
  unfold dctS at h1
  split at h1
  · rename_i es n sl hl
    split at h1
    · rename_i hsl
      obtain rfl : sl = #[] := Array.eq_empty_of_size_eq_zero hsl
      unfold hashI at h2
      rw [hl] at h2
      obtain ⟨k1, k2⟩ := its_okS h1 h2
      refine ⟨a, hm, hs, _, fun h hK => PySem.W.mapOf_K hK hl k1, ?_⟩
      simpa using k2
    · cases h1
  · cases h1
end
end MP

set_option Elab.async false
set_option linter.all false
set_option maxRecDepth 100000
set_option maxHeartbeats 4000000
namespace MP
open PySem PySem.Spec PyProof.Rows L2
/-! ### zip(a text, a list) -/
def ItzTL (K : PySem.W.Frag) (x : Str) (a : Addr) : It :=
  ⟨fun i H => ∃ (ys : List V) (y : V), SqL K H a ys ∧ ys[i]? = some y ∧ i < x.cps.size,
    fun i H v H' => ∃ T c y, v = .ref T ∧ H T = none ∧ H' = upd H T (.tup [.str ⟨#[c]⟩, y]) ∧ x.cps[i]? = some c ∧ ∀ ys, SqL K H a ys → ys[i]? = some y,
    fun i H => ∃ ys : List V, SqL K H a ys ∧ i ≤ x.cps.size ∧ i ≤ ys.length ∧ (i = x.cps.size ∨ i = ys.length)⟩
theorem turn_zipTL {P : Program} {w : World} {K : PySem.W.Frag} {elts : List Expr} {kk : Nat} {tpos : Pos} {x : Str} {t : Tok} {a z TI TO i1 i2 : Addr} (D : ZipSep2 z TI TO i1 i2 [i1] [i2, a]) (hne : a ≠ i2) :
    Turn P w K (.Tuple elts kk tpos) (ItzTL K x a) [z, TI, TO, i1, i2] z (fun i h => IsZip h z TI TO .none ∧ IsTupOf2 h TI (.ref i1) (.ref i2) ∧ (∃ x y, IsTupOf2 h TO x y) ∧ h.IsStrIter i1 (strIterType x) x t i ∧ h.IsListIter i2 a i) where
  mem := by simp
  obj := fun i h st c hc => by
    obtain ⟨hz, hTI, ⟨x, y, hTO⟩, ⟨o1, e1, _, d1⟩, ⟨o2, e2, _, d2⟩⟩ := st
    have e' : c = z ∨ c = TI ∨ c = TO ∨ c = i1 ∨ c = i2 := by simpa using hc
    rcases e' with q | q | q | q | q
    · rw [q]; exact ⟨_, hz, fun v q => nomatch q⟩
    · rw [q]; exact ⟨_, hTI, fun v q => nomatch q⟩
    · rw [q]; exact ⟨_, hTO, fun v q => nomatch q⟩
    · rw [q]; exact ⟨o1, e1, fun v q => by rw [d1] at q; cases q⟩
    · rw [q]; exact ⟨o2, e2, fun v q => by rw [d2] at q; cases q⟩
  keep := fun i h h' st k => by
    obtain ⟨hz, hTI, ⟨x, y, hTO⟩, h1, h2⟩ := st
    obtain ⟨o1, e1, q1⟩ := h1
    exact ⟨k z (by simp) _ hz, k TI (by simp) _ hTI, ⟨x, y, k TO (by simp) _ hTO⟩, ⟨o1, k i1 (by simp) _ e1, q1⟩, h2.at fun o q => k i2 (by simp) o q⟩
  item := by
    intro X hP hw hK hc i pins s σ H E I hf st hg
    subst hP hw hK
    obtain ⟨hz, hTI, ⟨x0, y0, hTO⟩, h1, h2⟩ := st
    obtain ⟨ys, y, hqy, hy, hi⟩ := hg
    obtain ⟨its2, rv2, p2, _⟩ := I.list hqy
    obtain ⟨u2, hu2, ru2⟩ := rv2.get hy
    have hzl : z < s.heap.objs.size := Heap.lt_size hz
    have l2 : i < its2.toArray.size := by
      have := (List.getElem?_eq_some_iff.mp hu2).1
      simpa using this
    refine wpAny_pyNext_zipD2_item D (Draws.text (A := X.A.in1) (I.ok.hd hc) i1 x t) (Draws.list (A := X.A.in1) (I.ok.hd hc) i2 a hne its2.toArray) hz hTI hTO h1 ⟨h2, p2.isList⟩ hi l2 fun x1 x2 h' tk q1 q2 z' TO' h1' h2' hT hsz hk => ?_
    obtain ⟨c, u, hcx, rfl⟩ := q1
    have ex2 : x2 = u2 := by
      have : its2.toArray[i]? = some u2 := by simpa using hu2
      rw [this] at q2
      exact (Option.some.inj q2).symm
    subst ex2
    refine ⟨_, rfl, wpAny_letOwnedTupleGo_zip (s := { s with heap := h', toks := tk }) z' fun h'' z'' sb => ?_⟩
    have hT2 : h''.get? s.heap.objs.size = some { cls := .type "tuple", data := .seq #[.str ⟨#[c]⟩ u, x2] } := (sb.2 _ (Nat.ne_of_gt hzl)).trans hT
    have new : ObjOk X.prog X.w (upd H s.heap.objs.size (.tup [.str ⟨#[c]⟩, y])) h'' s.heap.objs.size (.tup [.str ⟨#[c]⟩, y]) :=
      ⟨by show 2 ≤ sizeLine; decide, [.str ⟨#[c]⟩ u, x2], .cons ⟨u, rfl⟩ (.cons ru2 .nil), ⟨_, hT2, rfl, _, rfl⟩⟩
    have I1 : Inv X pins σ (upd H s.heap.objs.size (.tup [.str ⟨#[c]⟩, y])) { s with heap := h'', toks := tk } :=
      I.turnedNew (t' := tk) (ch := [z, TI, TO, i1, i2]) (fun c o hb q => (sb.2 c (fun q' => hb (by simp [q']))).trans (hk c o (fun q' => hb (by simp [q'])) (fun q' => hb (by simp [q'])) (fun q' => hb (by simp [q'])) (fun q' => hb (by simp [q'])) q)) hf (Nat.le_refl _) new
    refine ⟨.ref s.heap.objs.size, _, I1, rfl, ⟨_, c, y, rfl, I.hok.fresh (Nat.le_refl _), rfl, hcx, fun l hl => by rw [I.list_inj hl hqy]; exact hy⟩, ⟨z'', ?_, ⟨.str ⟨#[c]⟩ u, x2, ?_⟩, ?_, ?_⟩, fun c hcm => ?_⟩
    · exact (sb.2 _ D.TIz).trans (hk _ _ D.TIz D.TITO D.TIi1 D.TIi2 hTI)
    · exact (sb.2 _ D.TOz).trans TO'
    · obtain ⟨o1, e1, r1⟩ := h1'
      exact ⟨o1, (sb.2 _ (Ne.symm D.zi1)).trans e1, r1⟩
    · exact h2'.1.at fun o q => (sb.2 _ (Ne.symm D.zi2)).trans q
    · have hlt : c < s.heap.objs.size := by
        have e' : c = z ∨ c = TI ∨ c = TO ∨ c = i1 ∨ c = i2 := by simpa using hcm
        rcases e' with q | q | q | q | q
        · rw [q]; exact hzl
        · rw [q]; exact Heap.lt_size hTI
        · rw [q]; exact Heap.lt_size hTO
        · rw [q]; obtain ⟨_, e1, _⟩ := h1; exact Heap.lt_size e1
        · rw [q]; obtain ⟨_, e2, _⟩ := h2; exact Heap.lt_size e2
      rw [upd_ne (Nat.ne_of_lt hlt)]
      exact (hf c hcm).1
  done := by
    intro X hP hw hK hc i pins s σ H E I hf st hg
    subst hP hw hK
    obtain ⟨hz, hTI, ⟨x0, y0, hTO⟩, h1, h2⟩ := st
    obtain ⟨ys, hqy, le1, le2, hend⟩ := hg
    obtain ⟨its2, rv2, p2, _⟩ := I.list hqy
    have l2 := rv2.length
    have ls : its2.toArray.size = ys.length := by simp [l2]
    exact wpAny_pyNext_zipD2_end D (Draws.text (A := X.A.in1) (I.ok.hd hc) i1 x t) (Draws.list (A := X.A.in1) (I.ok.hd hc) i2 a hne its2.toArray) hz hTI hTO h1 ⟨h2, p2.isList⟩ le1 (by rw [ls]; exact le2) (by rw [ls]; exact hend) fun h' tk hk => ⟨rfl, I.turnedL (t' := tk) (ch := [z, TI, TO, i1, i2]) (fun c o hb q =>
      hk c o (fun q' => hb (by simp [q'])) (fun q' => hb (by simp [q'])) (fun q' => hb (by simp [q'])) (fun q' => hb (by simp [q'])) q) hf⟩
  self := fun A i s Q E st h => wpAny_pyIter_zip st.1 h
theorem nmem1 {x a : Nat} (h : x ≠ a) : (x : Addr) ∉ [(a : Addr)] := fun m => by
  rcases List.mem_cons.mp m with e | m
  · exact h e
  · cases m
theorem nmem2 {x a b : Nat} (h : x ≠ a) (h2 : x ≠ b) : (x : Addr) ∉ [(a : Addr), (b : Addr)] := fun m => by
  rcases List.mem_cons.mp m with e | m
  · exact h e
  · exact nmem1 h2 m
theorem sepTL (I b : Nat) (h : b < I) : ZipSep2 (I + 4) (I + 2) (I + 3) I (I + 1) [I] [I + 1, b] where
  TIz := PySem.W.neN (by omega)
  TOz := PySem.W.neN (by omega)
  TITO := PySem.W.neN (by omega)
  TIi1 := PySem.W.neN (by omega)
  mem1 := List.mem_cons_self
  zf1 := nmem1 (by omega)
  Tf1 := nmem1 (by omega)
  TIi2 := PySem.W.neN (by omega)
  mem2 := List.mem_cons_self
  zf2 := nmem2 (by omega) (by omega)
  Tf2 := nmem2 (by omega) (by omega)
  sep1_2 := nmem2 (by omega) (by omega)
  sep2_1 := nmem1 (by omega)
def iZipTL (K : PySem.W.Frag) (ta : TA) : TI := fun σ H R => ta σ H fun vs H1 => ∃ x b ys, vs = [.str x, .ref b] ∧ SqL K H1 b ys ∧ R (ItzTL K x b) H1
theorem pi_zipTL {X : Cx} {e e2 : Expr} {ta : TA} {p pos tpos : Pos} {elts : List Expr} {kk : Nat} (hg : Gl X "zip") (hm : X.mg "zip" = none) (ha : PA X [e, e2] ta)
    (hs : starEach [e, e2] X.env = (false, eval e X.env) :: starEach [e2] X.env := by rfl) (hpl : (backTo pos (starEach [e2] X.env)).any (·.1) = false := by rfl) :
    PI X (.Tuple elts kk tpos) (.Call (.Name "zip" p) [e, e2] [] pos) (iZipTL X.K ta) := by
  refine ⟨fun pins s σ H R I h => ?_⟩
  refine Call_ (ld_blt I hg hm PyProof.Rows.boot_zip (PyProof.Rows.callWith_type1 (thn (ha.run pos pins s σ H _ I h) fun us s1 ⟨vs, H1, I1, r1, q1⟩ => ?_) hs hpl))
  obtain ⟨x, b, ys, ex, hqy, q⟩ := q1
  subst ex
  cases r1 with
  | cons r rr =>
    cases rr with
    | cons r' rr =>
      cases rr
      obtain ⟨t, rfl⟩ := r
      cases r'
      obtain ⟨its2, rv2, p2, _⟩ := I1.list hqy
      have lb : b < s1.heap.objs.size := p2.lt
      refine zip_begins2 (begins_text x t) (begins_list b its2.toArray) trivial p2.isList fun h' hz hTI hTO g1 g2 hsz hk => wpAny_pyIter_zip hz ?_
      have I2 : Inv X pins σ H1 { s1 with heap := h' } := I1.kept (t' := s1.toks) hk
      have sep : ZipSep2 (s1.heap.objs.size + 4) (s1.heap.objs.size + 2) (s1.heap.objs.size + 3) s1.heap.objs.size (s1.heap.objs.size + 1) [s1.heap.objs.size] [s1.heap.objs.size + 1, b] := by
        exact sepTL s1.heap.objs.size b lb
      refine ⟨s1.heap.objs.size + 4, [s1.heap.objs.size + 4, s1.heap.objs.size + 2, s1.heap.objs.size + 3, s1.heap.objs.size, s1.heap.objs.size + 1], _, _, H1, rfl, I2, turn_zipTL (t := t) sep (Nat.ne_of_lt (Nat.lt_succ_of_lt lb)), ⟨hz, hTI, ⟨_, _, hTO⟩, ⟨_, g1, rfl, rfl⟩, ⟨_, g2, rfl, rfl⟩⟩, fun c hcm => ?_, q⟩
      have e' : c = s1.heap.objs.size + 4 ∨ c = s1.heap.objs.size + 2 ∨ c = s1.heap.objs.size + 3 ∨ c = s1.heap.objs.size ∨ c = s1.heap.objs.size + 1 := by simpa using hcm
      have hle : s1.heap.objs.size ≤ c := by
        rcases e' with z | z | z | z | z
        · rw [z]; exact Nat.le_add_right _ _
        · rw [z]; exact Nat.le_add_right _ _
        · rw [z]; exact Nat.le_add_right _ _
        · rw [z]; exact Nat.le_refl _
        · rw [z]; exact Nat.le_add_right _ _
      exact I1.fpOk hle (I1.hok.fresh hle)
/-! the mirror -/
section
variable {X : Cx} {G : Ga} {W : WX} {k : Nat}
def zTL (z : Str) (ds : List D) (i : Nat) (_ : Sto) : Option (Option D) := match (signs z)[i]?, ds[i]? with
  | some c, some d => some (some (.tup [c, d]))
  | _, _ => if i ≤ z.cps.size ∧ i ≤ ds.length then some none else none
def itZTL (xs : List D) (S : Sto) : Option MIt := match xs with
  | [.str z, .vl ds] => some ⟨zTL z ds, z.length + ds.length + 1⟩
  | _ => none
def miZTL (ms : MAr) : MIx := fun ρ S => (ms ρ S).it itZTL
theorem i_zipTL {e e2 : Expr} {ms : MAr} {p pos tpos : Pos} {elts : List Expr} {kk : Nat} (hm : X.mg "zip" = none) (ha : PA X [e, e2] (wpA X.K G W ms)) (hg : Gl X "zip" := by rfl)
    (hs : starEach [e, e2] X.env = (false, eval e X.env) :: starEach [e2] X.env := by rfl) (hpl : (backTo pos (starEach [e2] X.env)).any (·.1) = false := by rfl) :
    PI X (.Tuple elts kk tpos) (.Call (.Name "zip" p) [e, e2] [] pos) (wpI X.K G W (miZTL ms)) := by
  refine pi_conv (pi_zipTL hg hm ha hs hpl) ?_
  rintro σ H R ⟨φ, ρ, S, em, rs, h⟩
  refine ⟨φ, ρ, S, em, rs, it_core h fun xs S1 φ1 vs H1 it x1 em1 rv hf hR => ?_⟩
  unfold itZTL at hf
  split at hf
  · rename_i z ds
    cases hf
    cases rv with
    | cons r1 rr =>
      cases rr with
      | cons r2 rr =>
        cases rr
        cases r1
        cases r2 with
        | @vl _ ws a n q r hp =>
          refine ⟨z, a, ws, rfl, .inl (.inl q), hR _ ?_⟩
          intro i φ' S' H' x em'
          have q' : H' a = some (.lst ws) := x.out _ _ n q
          have rw' : RVs X.K G H' φ' ds ws := RVs.ext x r
          have hl := RVs.length rw'
          have sq : SqL X.K H' a ws := .inl (.inl q')
          show match zTL z ds i S' with | none => True | some none => _ | some (some d) => _
          unfold zTL
          have e0 : (signs z)[i]? = (z.cps[i]?).map fun c => D.str ⟨#[c]⟩ := by
            unfold signs
            rw [List.getElem?_map]
            simp
          rw [e0]
          cases e : z.cps[i]? with
          | none =>
            have le1 := Array.getElem?_eq_none_iff.mp e
            show match (if i ≤ z.cps.size ∧ i ≤ ds.length then some none else none : Option (Option D)) with | none => True | some none => _ | some (some d) => _
            split
            · trivial
            · rename_i hq
              split at hq
              · rename_i hc
                exact ⟨ws, sq, hc.1, by rw [← hl]; exact hc.2, .inl (Nat.le_antisymm hc.1 le1)⟩
              · cases hq
            · rename_i hq
              split at hq <;> cases hq
          | some c =>
            cases ed : ds[i]? with
            | none =>
              have le2 := List.getElem?_eq_none_iff.mp ed
              show match (if i ≤ z.cps.size ∧ i ≤ ds.length then some none else none : Option (Option D)) with | none => True | some none => _ | some (some d) => _
              split
              · trivial
              · rename_i hq
                split at hq
                · rename_i hc
                  exact ⟨ws, sq, hc.1, by rw [← hl]; exact hc.2, .inr (by rw [← hl]; exact Nat.le_antisymm hc.2 le2)⟩
                · cases hq
              · rename_i hq
                split at hq <;> cases hq
            | some d =>
              obtain ⟨v, ev, rv⟩ := RVs.get rw' ed
              refine ⟨⟨ws, v, sq, ev, (Array.getElem?_eq_some_iff.mp e).1⟩, ?_⟩
              rintro y H'' ⟨T, c', v', rfl, hT, rfl, ec', hv'⟩
              rw [e] at ec'
              cases ec'
              have := hv' ws sq
              rw [ev] at this
              cases this
              exact ⟨.other hT, em'.other hT, .tup (.of upd_same) (.cons .str (.cons (RV.ext (.other hT) rv) .nil))⟩
  · cases hf
end
end MP

set_option Elab.async false
set_option linter.all false
set_option maxRecDepth 100000
set_option maxHeartbeats 4000000
namespace MP
open PySem PySem.Spec PyProof.Rows L2
/-! ### raise C(n), where C has an __init__ of its own that keeps the row -/
def oexB (K : PySem.W.Frag) (C : Addr) : Bool := match K.lookup C with
  | some ⟨.type "type", _, .cls cd, sl⟩ => (match cd.mro, sl.toList with
    | .ref C' :: bm, [_, _, _, _, some (.builtin n), _] => C' == C && n == "ValueError.__new__" && !cd.hasDel && cd.hasDict && PySem.HandSPX.refsVE bm
    | _, _ => false)
  | _ => false
theorem oexB_cls {K : PySem.W.Frag} {C : Addr} (q : oexB K C = true) : ∃ nm q N bs bm sn sub ab col dd k0 k1 k2 k3 k5, K.lookup C = some (excClassObj nm q C N bs bm true sn sub ab col dd k0 k1 k2 k3 k5 "ValueError.__new__") ∧ PySem.HandSPX.refsVE bm = true := by
  unfold oexB at q
  split at q
  · rename_i dd cd sl ho
    split at q
    · rename_i C' bm k0 k1 k2 k3 n k5 hm hs
      simp only [Bool.and_eq_true, beq_iff_eq, Bool.not_eq_true'] at q
      obtain ⟨⟨⟨⟨rfl, rfl⟩, hdel⟩, hdc⟩, ht⟩ := q
      obtain ⟨nm, bs, mro, ns, qn, hd, sn, sub, ab, col, del⟩ := cd
      dsimp only at hm hdel hdc
      subst hm hdel hdc
      have hsl : sl = #[k0, k1, k2, k3, some (.builtin "ValueError.__new__"), k5] := by
        obtain ⟨l⟩ := sl
        simp only at hs
        rw [hs]
      subst hsl
      exact ⟨nm, qn, ns, bs, bm, sn, sub, ab, col, dd, k0, k1, k2, k3, k5, ho, ht⟩
    · cases q
  · cases q
def spI (K : PySem.W.Frag) : Sp := fun vs H Q _ => ∃ (a C : Addr) (y : V), vs = [.ref a, y] ∧ OexC K C ∧ PySem.W.findIn K (.ref C) "row" = some none ∧ H a = some (exo a C none) ∧
  ∀ dx, H dx = none → dx ≠ a → Q .non (upd (upd H dx (exd dx [(("row" : Str), y)])) a (exo a C (some dx)))
structure FnXI (P : Program) (w : World) (K : PySem.W.Frag) (mg : Str → Option Value) (base : Heap) (G : Ga) (c : Xc) : Prop where
  ex : ∃ fI fd, OexC K (G.xc c) ∧ PySem.W.findIn K (.ref (G.xc c)) "__init__" = some (some (.ref fI)) ∧ PySem.W.typeIn K (.ref fI) = some (.type "function") ∧ FnOk P w K mg base L2.CX0 1 fI fd ["self", "row"] (spI K) ∧ Binds K fd ["self", "row"] [] ∧
    PySem.W.findIn K (.ref (G.xc c)) "row" = some none ∧ mg c.nm = some (.ref (G.xc c))
theorem xinit {P : Program} {w : World} {K : PySem.W.Frag} {mg : Str → Option Value} {base : Heap} {qual : Str} {st : Stmt} {f : Addr} {fd : FuncData} (F : Fun K "__init__" qual st f fd) (S : FnScope ["self", "row"] ["self", "row"] (defScope st))
    (hb : ∀ (cdv : Value) (A : Around) (outer : List Env) (s : Shared) (H : Hp) (E : XK), PSs (cxOf L2.CX0 P w K mg base ["self", "row"] qual (defScope st) f cdv A outer s H E).nox (defBody st) (tOst K "row" (tVar 0) (tVar 1))) :
    FnOk P w K mg base L2.CX0 1 f fd ["self", "row"] (spI K) := by
  refine F.ok (N := ["self", "row"]) S (fun vs H Q E h => by obtain ⟨a, C, y, rfl, _⟩ := h; rfl) fun cdv A outer s H vs Q E hr h => ⟨_, hb cdv A outer s H E, ?_⟩
  obtain ⟨a, C, y, rfl, T, hrow, ha, q⟩ := h
  exact ⟨y, rfl, .ref a, rfl, a, C, rfl, T, hrow, .inl ⟨ha, fun dx hd hne => q dx hd hne⟩⟩
section
variable {X : Cx} {G : Ga} {W : WX} {k : Nat}
def sRaiseI (c : Xc) (m : MEx) : MSt := fun ρ S => (m ρ S).st ρ fun d S1 => if d.pureB = true then .xc ⟨c, some d⟩ ρ S1 else .stuck
theorem s_raiseI {c : Xc} {x : Str} {e : Expr} {m : MEx} {p pos pos2 : Pos} (F : FnXI X.prog X.w X.K X.mg X.base G c) (d : DX X G W k) (he : PE X e (wpE X.K G W m)) (hx : c.nm = x := by rfl) (hk : 2 ≤ k := by decide) (hg : Gl X x := by rfl) (hdb : (x == ("__debug__" : Str)) = false := by decide)
    (hst : starEach (e :: []) X.env = (false, eval e X.env) :: starEach [] X.env := by rfl) (hpl : (backTo pos (starEach [] X.env)).any (·.1) = false := by rfl) :
    PS X (.Raise (some (.Call (.Name x p) [e] [] pos)) none pos2) (wpS X.K G W (sRaiseI c m)) := by
  subst hx
  obtain ⟨fI, fd, T, iC, tI, F1, hb, hrow, hm⟩ := F.ex
  refine ps_conv (ps_raise d.calm d.tk (pmk_oex T iC tI F1 (d.hr.mono hk) hb .nil pass0 hg hm (pa_cons he pa_nil hst) hdb hst hpl)) ?_
  rintro D σ H ⟨φ, ρ, S, em, rs, h⟩
  refine ⟨φ, ρ, S, em, rs, outR.st rs h fun v S1 φ1 y H1 x em1 rv h1 => ?_⟩
  split at h1
  · rename_i hp
    refine ⟨(show (1 : Nat) ≤ 1000 by decide), fun a na => ⟨a, G.xc c, y, rfl, T, hrow, upd_same, fun dx hd hne => ⟨rfl, dx, [(("row" : Str), y)], upd_same, by rw [upd_ne hne, upd_same], ?_, ?_⟩⟩⟩
    · rw [upd_ne hne] at hd
      exact hd
    · rw [upd_ne hne] at hd
      have e : upd (del (upd (upd (upd H1 a (exo a (G.xc c) none)) dx (exd dx [(("row" : Str), y)])) a (exo a (G.xc c) (some dx))) a) dx (.xd [(("row" : Str), y)]) = upd H1 dx (.xd [(("row" : Str), y)]) := by
        funext b
        by_cases h1 : b = dx
        · rw [h1, upd_same, upd_same]
        · rw [upd_ne h1, upd_ne h1]
          by_cases h2 : b = a
          · rw [h2, del_same, na]
          · rw [del_ne h2, upd_ne h2, upd_ne h1, upd_ne h2]
      rw [e]
      have key : XW X.K G W ⟨c, some v⟩ φ1 σ (upd H1 dx (.xd [(("row" : Str), y)])) := h1 φ1 σ _ (.other hd) (em1.other hd) ((rs.ext x).ext (.other hd))
      exact key dx y upd_same (RV.ext (.other hd) rv)
  · exact h1.elim
end
section
variable {c : Xc} {m : MEx} {ρ : Rho} {S : Sto} {d : D}
def kRI (r : Res D) (c : Xc) (ρ : Rho) : SR := r.st ρ fun d S1 => if d.pureB = true then .xc ⟨c, some d⟩ ρ S1 else .stuck
theorem r_raiseI : sRaiseI c m ρ S = kRI (m ρ S) c ρ := rfl
theorem kRI_ok (h : d.pureB = true) : kRI (.ok d S) c ρ = .xc ⟨c, some d⟩ ρ S := if_pos h
end
end MP

set_option Elab.async false
set_option linter.all false
set_option maxRecDepth 100000
set_option maxHeartbeats 4000000
namespace MP
open PySem PySem.Spec PyProof.Rows L2
/-! ### enumerate(list, start=1) -/
section
variable {M : Model} {A : Around} {E : Value → Shared → Prop} {s : Shared} {env : Env}
theorem callWith_typeKw {pos : Pos} {T : String} {e : Expr} {rest : List Expr} {kws : List Keyword} {Q : Value → Shared → Prop}
    (h : wpAny M A (spliced (backTo pos (starEach (e :: rest) env))) (fun vs s₁ => wpAny M A (evalAll ((backToKw pos (keywordEach kws env)).map (·.2)))
      (fun kvs s₂ => wpAny M A (call (.type T) vs (((backToKw pos (keywordEach kws env)).filterMap (·.1)).zip kvs)) Q E s₂) E s₁) E s)
    (he : backTo pos (starEach (e :: rest) env) = (false, eval e env) :: backTo pos (starEach rest env) := by rfl)
    (hplain : (backTo pos (starEach (e :: rest) env)).any (·.1) = false := by rfl)
    (hall : (backToKw pos (keywordEach kws env)).all (·.1.isSome) = true := by rfl)
    (hkw : (backToKw pos (keywordEach kws env)).any (·.1.isNone) = false := by rfl) :
    wpAny M A (callWith pos (.type T) [] (backTo pos (starEach (e :: rest) env)) (backToKw pos (keywordEach kws env))) Q E s := by
  have h2 : wpAny M A (evalArgs (.type T) true (backTo pos (starEach (e :: rest) env)) (backToKw pos (keywordEach kws env))) (fun a s₁ => wpAny M A (call (.type T) ([] ++ a.pos) a.kw) Q E s₁) E s := by
    rw [he] at h ⊢
    exact evalArgs_kwB hall h
  unfold callWith
  refine wpAny_bind (wpAny_holding (wpAny_mono h2 (fun a s₁ h₁ => wpAny_bind (wpAny_standAt ?_)) fun _ _ x => x))
  simp only [hplain, hkw, Bool.or_false]
  refine wpAny_bind (wpAny_pure ?_)
  exact wpAny_bind (wpAny_mono h₁ (fun r s₂ hr => wpAny_bind (wpAny_holding (wpAny_point (wpAny_pure hr)))) fun _ _ x => x)
end
def Ite1 (K : PySem.W.Frag) (a : Addr) : It :=
  ⟨fun i H => ∃ (xs : List V) (x : V), SqL K H a xs ∧ xs[i]? = some x, fun i H v H' => ∃ T x, v = .ref T ∧ H T = none ∧ H' = upd H T (.tup [.int ((i + 1 : Nat) : Int), x]) ∧ ∀ xs, SqL K H a xs → xs[i]? = some x, fun i H => ∃ xs : List V, SqL K H a xs ∧ xs.length ≤ i⟩
theorem draws_list {prog : Program} {w : World} {A : Around} (hh : A.handled = none) (it l : Addr) (items : Array Value) (hne : it ≠ l) :
    Draws prog w A it [it, l] (items.size + 1) (fun j x => items[j - 1]? = some x) (fun j h => 1 ≤ j ∧ h.IsListIter it l (j - 1) ∧ h.IsList l items) where
  live := fun j h st => by
    obtain ⟨_, ⟨o, ho, _⟩, _⟩ := st
    exact ⟨o, ho⟩
  frame := fun j h h' st k => ⟨st.1, st.2.1.at fun o q => k it (by simp) o q, st.2.2.at fun o q => k l (by simp) o q⟩
  item := fun j s Q E hj st hQ => by
    obtain ⟨h1, hi, hl⟩ := st
    obtain ⟨x, hx⟩ : ∃ x, items[j - 1]? = some x := ⟨_, Array.getElem?_eq_getElem (by omega)⟩
    refine wpAny_nextOf_list_item hi hl hx fun h' hi' sb => ?_
    refine hQ x h' s.toks hx ⟨by omega, ?_, hl.at fun o q => (sb.2 l (Ne.symm hne)).trans q⟩ sb
    have e : j + 1 - 1 = j - 1 + 1 := by omega
    rw [e]
    exact hi'
  done := fun s Q E st hQ => by
    obtain ⟨h1, hi, hl⟩ := st
    exact wpAny_nextOf_list_end hh hi hl (Array.getElem?_eq_none_iff.mpr (by omega)) hQ
theorem turn_enum1 {P : Program} {w : World} {K : PySem.W.Frag} {elts : List Expr} {kk : Nat} {tpos : Pos} (a e it : Addr) :
    Turn P w K (.Tuple elts kk tpos) (Ite1 K a) [e, it] e (fun i h => (∃ old, IsEnum h e it ((i + 1 : Nat) : Int) old) ∧ h.IsListIter it a i ∧ e ≠ it) where
  mem := by simp
  obj := fun i h st b hb => by
    obtain ⟨⟨old, he⟩, ⟨o, ho, hc, hd⟩, _⟩ := st
    have e' : b = e ∨ b = it := by simpa using hb
    rcases e' with z | z
    · rw [z]; exact ⟨_, he, fun v q => nomatch q⟩
    · rw [z]; exact ⟨o, ho, fun v q => by rw [hd] at q; cases q⟩
  keep := fun i h h' st k => let ⟨⟨old, he⟩, hi, hne⟩ := st; ⟨⟨old, k e (by simp) _ he⟩, hi.at fun o q => k it (by simp) o q, hne⟩
  item := by
    intro X hP hw hK hc i pins s σ H E I hf st hg
    subst hP hw hK
    obtain ⟨⟨old, he⟩, hit, hne⟩ := st
    obtain ⟨xs, x, hq, hx⟩ := hg
    obtain ⟨its, rv, p, hz⟩ := I.list hq
    obtain ⟨u, hu, ru⟩ := rv.get hx
    have hu' : its.toArray[i]? = some u := by simpa using hu
    have hel : e < s.heap.objs.size := Heap.lt_size he
    have hil : it < s.heap.objs.size := by obtain ⟨_, q, _⟩ := hit; exact Heap.lt_size q
    have nla : it ≠ a := fun z => by
      obtain ⟨o1, h1, c1, _⟩ := hit
      obtain ⟨o2, h2, c2, _⟩ := p.isList
      rw [z, h2] at h1
      cases h1
      rw [c2] at c1
      injection c1 with c1
      exact absurd c1 (by decide)
    have nea : e ≠ a := fun z => by
      obtain ⟨o2, h2, c2, _⟩ := p.isList
      have he2 : s.heap.get? e = some _ := he
      rw [z, h2] at he2
      cases he2
      injection c2 with c2
      exact absurd c2 (by decide)
    have hi : i < its.toArray.size := (Array.getElem?_eq_some_iff.mp hu').1
    have D := draws_list (prog := X.prog) (w := X.w) (A := X.A.in1) (I.ok.hd hc) it a its.toArray nla
    refine wpAny_pyNext_enum_itemD (i := i + 1) D he ⟨by omega, hit, p.isList⟩ (by omega) hne (fun z => by
      rcases List.mem_cons.mp z with z | z
      · exact hne z
      · exact nea (List.mem_singleton.mp z)) fun y h' tk hy ho hst hT hsz hk => ?_
    have ey : y = u := by
      have : its.toArray[i]? = some y := hy
      rw [hu'] at this
      exact (Option.some.inj this).symm
    subst ey
    refine ⟨_, rfl, wpAny_letOwnedTupleGo_enum (s := { s with heap := h', toks := tk + 1 }) ho fun h'' he' sb => ?_⟩
    have hT2 : h''.get? s.heap.objs.size = some { cls := .type "tuple", data := .seq #[.int ((i + 1 : Nat) : Int) tk, y] } := (sb.2 _ (Nat.ne_of_gt hel)).trans hT
    have new : ObjOk X.prog X.w (upd H s.heap.objs.size (.tup [.int ((i + 1 : Nat) : Int), x])) h'' s.heap.objs.size (.tup [.int ((i + 1 : Nat) : Int), x]) :=
      ⟨by show 2 ≤ sizeLine; decide, [.int ((i + 1 : Nat) : Int) tk, y], .cons ⟨_, rfl⟩ (.cons ru .nil), ⟨_, hT2, rfl, _, rfl⟩⟩
    have I1 : Inv X pins σ (upd H s.heap.objs.size (.tup [.int ((i + 1 : Nat) : Int), x])) { s with heap := h'', toks := tk + 1 } :=
      I.turnedNew (ch := [e, it]) (fun b ob hb q => (sb.2 b (fun z => hb (by simp [z]))).trans (hk b ob (fun z => hb (by simp [z])) (fun z => hb (by simp [z])) q)) hf (Nat.le_refl _) new
    refine ⟨.ref s.heap.objs.size, _, I1, rfl, ⟨_, x, rfl, I.hok.fresh (Nat.le_refl _), rfl, fun ys hy => by rw [I.list_inj hy hq]; exact hx⟩, ⟨⟨y, ?_⟩, ?_, hne⟩, fun b hb => ?_⟩
    · have e1 : ((i + 1 + 1 : Nat) : Int) = ((i + 1 : Nat) : Int) + 1 := by omega
      rw [e1]; exact he'
    · have hit' : h'.IsListIter it a (i + 1) := hst.2.1
      exact hit'.at fun o q => (sb.2 it (Ne.symm hne)).trans q
    · have hb' : b < s.heap.objs.size := by
        have e' : b = e ∨ b = it := by simpa using hb
        rcases e' with z | z
        · rw [z]; exact hel
        · rw [z]; exact hil
      rw [upd_ne (Nat.ne_of_lt hb')]
      exact (hf b hb).1
  done := by
    intro X hP hw hK hc i pins s σ H E I hf st hg
    subst hP hw hK
    obtain ⟨⟨old, he⟩, hit, hne⟩ := st
    obtain ⟨xs, hq, hx⟩ := hg
    obtain ⟨its, rv, p, hz⟩ := I.list hq
    obtain ⟨f0, f1, f2, f3, f4, f5⟩ := hf it (by simp)
    have hl := rv.length
    have nla : it ≠ a := fun z => by
      obtain ⟨o1, h1, c1, _⟩ := hit
      obtain ⟨o2, h2, c2, _⟩ := p.isList
      rw [z, h2] at h1
      cases h1
      rw [c2] at c1
      injection c1 with c1
      exact absurd c1 (by decide)
    -- beyond its end
    have D : Draws X.prog X.w X.A.in1 it [it, a] (i + 1) (fun _ _ => False) (fun j h => j = i + 1 ∧ h.IsListIter it a i ∧ h.IsList a its.toArray) := {
      live := fun j h st => by
        obtain ⟨_, ⟨o, ho, _⟩, _⟩ := st
        exact ⟨o, ho⟩
      frame := fun j h h' st k => ⟨st.1, st.2.1.at fun o q => k it (by simp) o q, st.2.2.at fun o q => k a (by simp) o q⟩
      item := fun j s Q E hj st hQ => absurd st.1 (by omega)
      done := fun s Q E st hQ => wpAny_nextOf_list_end (I.ok.hd hc) st.2.1 st.2.2 (Array.getElem?_eq_none_iff.mpr (by simp; omega)) hQ }
    exact wpAny_pyNext_enum_endD (n := i + 1) D he ⟨rfl, hit, p.isList⟩ fun h' eb => ⟨rfl, I.turned (t' := s.toks) (fun b o hb q => eb b o hb q) f0 f1 f3 f4 f5⟩
  self := fun A i s Q E st h => let ⟨⟨_, he⟩, _⟩ := st; wpAny_pyIter_enum he h
section
variable {X : Cx} {G : Ga} {W : WX} {k : Nat}
def iEnum1 (K : PySem.W.Frag) (ta : TA) : TI := fun σ H R => ta σ H fun vs H1 => ∃ a xs, vs = [.ref a] ∧ SqL K H1 a xs ∧ R (Ite1 K a) H1
theorem pi_enum1 {e : Expr} {ta : TA} {p pos tpos p1 p2 : Pos} {elts : List Expr} {kk j : Nat} {tk : Tok} (hg : Gl X "enumerate") (hm : X.mg "enumerate" = none) (ha : PA X [e] ta)
    (hs : backTo pos (starEach [e] X.env) = (false, eval e X.env) :: backTo pos (starEach [] X.env) := by rfl)
    (hplain : (backTo pos (starEach [e] X.env)).any (·.1) = false := by rfl) (hall : (backToKw pos (keywordEach [⟨some "start", .Constant (.int 1) j p1, p2⟩] X.env)).all (·.1.isSome) = true := by rfl)
    (hkw : (backToKw pos (keywordEach [⟨some "start", .Constant (.int 1) j p1, p2⟩] X.env)).any (·.1.isNone) = false := by rfl)
    (hks : (backToKw pos (keywordEach [⟨some "start", .Constant (.int 1) j p1, p2⟩] X.env)).filterMap (·.1) = [("start" : Str)] := by rfl) :
    PI X (.Tuple elts kk tpos) (.Call (.Name "enumerate" p) [e] [⟨some "start", .Constant (.int 1) j p1, p2⟩] pos) (iEnum1 X.K ta) := by
  refine ⟨fun pins s σ H R I h => ?_⟩
  refine wpAny_Call_Name_kw (ld_blt I hg hm boot_enumerate (callWith_typeKw (thn (ha.run pos pins s σ H _ I h) fun us s1 ⟨vs, H1, I1, r1, q1⟩ => ?_) hs hplain hall hkw))
  refine thn ((pk_cons (nm := some "start") (kpos := p2) pe_int pk_nil).run pos pins s1 σ H1 (fun zs H2 => zs = [.int 1] ∧ H2 = H1) I1 ⟨rfl, rfl⟩) fun ws s2 ⟨zs, H2, I2, r2, ez, eH⟩ => ?_
  subst ez eH
  rw [hks]
  obtain ⟨a, xs, ex, hq, q⟩ := q1
  subst ex
  cases r2 with
  | cons rz rn =>
    cases rn
    obtain ⟨tk, rfl⟩ := rz
    cases r1 with
    | cons r rr =>
      cases rr
      cases r
      obtain ⟨its, rv, p', hz⟩ := I2.list hq
      show wpAny _ _ (call (.type "enumerate") [.ref a] [(("start" : Str), .int 1 tk)]) _ _ _
      refine enum_begins_start (begins_list a its.toArray) p'.isList (by decide) (by decide) fun h' he hit hsz hk => wpAny_pyIter_enum he ?_
      have I3 : Inv X pins σ H2 { s2 with heap := h' } := I2.kept (t' := s2.toks) hk
      refine ⟨s2.heap.objs.size + 1, [s2.heap.objs.size + 1, s2.heap.objs.size], _, _, H2, rfl, I3, turn_enum1 a (s2.heap.objs.size + 1) s2.heap.objs.size, ⟨⟨.none, he⟩, ⟨_, hit, rfl, rfl⟩, Nat.succ_ne_self _⟩, fun b hb => ?_, q⟩
      have e' : b = s2.heap.objs.size + 1 ∨ b = s2.heap.objs.size := by simpa using hb
      have hle : s2.heap.objs.size ≤ b := by
        rcases e' with z | z
        · rw [z]; exact Nat.le_add_right _ _
        · rw [z]; exact Nat.le_refl _
      exact I2.fpOk hle (I2.hok.fresh hle)
def enFix1 (xs : List D) : Nat → Sto → Option (Option D) := fun i _ => some (xs[i]?.map fun d => .tup [.int ((i + 1 : Nat) : Int), d])
def itEn1 (ds : List D) (S : Sto) : Option MIt := match ds with
  | [.vl xs] => some ⟨enFix1 xs, xs.length + 1⟩
  | _ => none
def miEn1 (ms : MAr) : MIx := fun ρ S => (ms ρ S).it itEn1
theorem it_enF1 {K : PySem.W.Frag} {d : D} {xs : List D} {a : Addr} {n : Nat} {φ0 : List Addr} {H0 : Hp} (hd : ∀ S, lstO S d = some xs) (r : RV K G H0 φ0 d (.ref a)) : ItOk K G ⟨enFix1 xs, n⟩ (Ite1 K a) φ0 H0 := by
  intro i φ S H x em
  show match enFix1 xs i S with | none => True | some none => _ | some (some d) => _
  obtain ⟨p, vs, e0, sq, s⟩ := lst_ok em (r.ext x) (hd S)
  cases e0
  unfold enFix1
  cases e : xs[i]? with
  | none => simp only [Option.map_none]; exact ⟨vs, sq, by rw [← RVs.length s]; exact List.getElem?_eq_none_iff.mp e⟩
  | some d =>
    simp only [Option.map_some]
    obtain ⟨w, ew, r'⟩ := RVs.get s e
    refine ⟨⟨vs, w, sq, ew⟩, ?_⟩
    rintro y H'' ⟨T, x0, rfl, hT, rfl, hy⟩
    have := hy vs sq
    rw [ew] at this
    cases this
    exact ⟨.other hT, em.other hT, .tup (.of upd_same) (.cons .int (.cons (RV.ext (.other hT) r') .nil))⟩
theorem i_enum1 {e : Expr} {elts : List Expr} {kk j : Nat} {ms : MAr} {p pos tpos p1 p2 : Pos} (hm : X.mg "enumerate" = none) (ha : PA X [e] (wpA X.K G W ms)) (hg : Gl X "enumerate" := by rfl)
    (hs : backTo pos (starEach [e] X.env) = (false, eval e X.env) :: backTo pos (starEach [] X.env) := by rfl)
    (hplain : (backTo pos (starEach [e] X.env)).any (·.1) = false := by rfl) (hall : (backToKw pos (keywordEach [⟨some "start", .Constant (.int 1) j p1, p2⟩] X.env)).all (·.1.isSome) = true := by rfl)
    (hkw : (backToKw pos (keywordEach [⟨some "start", .Constant (.int 1) j p1, p2⟩] X.env)).any (·.1.isNone) = false := by rfl)
    (hks : (backToKw pos (keywordEach [⟨some "start", .Constant (.int 1) j p1, p2⟩] X.env)).filterMap (·.1) = [("start" : Str)] := by rfl) :
    PI X (.Tuple elts kk tpos) (.Call (.Name "enumerate" p) [e] [⟨some "start", .Constant (.int 1) j p1, p2⟩] pos) (wpI X.K G W (miEn1 ms)) := by
  refine pi_conv (pi_enum1 (tk := 0) hg hm ha hs hplain hall hkw hks) ?_
  rintro σ H R ⟨φ, ρ, S, em, rs, h⟩
  refine ⟨φ, ρ, S, em, rs, it_core h fun d S1 φ1 v H1 it x1 em1 rv hf hR => ?_⟩
  unfold itEn1 at hf
  split at hf
  · rename_i xs
    cases hf
    cases (show RVs X.K G H1 φ1 _ v from rv) with
    | cons r b =>
      cases b
      obtain ⟨a, vs, rfl, sq, rvs⟩ := lst_ok em1 r (show lstO S1 (.vl xs) = some xs from rfl)
      exact ⟨a, vs, rfl, sq, hR _ (it_enF1 (fun _ => rfl) r)⟩
  · cases hf
end
/-! ### text.partition(sep) -/
section
variable {G : Ga} {W : WX}
def parD (d : D) (ds : List D) (S : Sto) : Res D := match d, ds with
  | .str a, [.str b] => if (b.length == 0) = false ∧ a.length ≤ sizeLine then .ok (.tup [.str (Txt.partition a b).1, .str (Txt.partition a b).2.1, .str (Txt.partition a b).2.2]) S else .stuck
  | _, _ => .stuck
def rPart : V → List V → Hp → VK → Prop := fun x xs H Q => ∃ a b, x = .str a ∧ xs = [.str b] ∧ (b.length == 0) = false ∧ a.length ≤ sizeLine ∧
    ∀ p, H p = none → Q (.ref p) (upd H p (.tup [.str (Txt.partition a b).1, .str (Txt.partition a b).2.1, .str (Txt.partition a b).2.2]))
theorem s_part {K : PySem.W.Frag} : MetS K G W parD rPart := by
  intro φ S σ H d ds v vs Q em r rs h
  unfold parD at h
  split at h
  · rename_i a b
    split at h
    · rename_i hz
      cases r
      cases rs with
      | cons q n =>
        cases n
        cases q
        exact ⟨a, b, rfl, rfl, hz.1, hz.2, fun p hp => h φ _ _ (.other hp) (em.other hp) (.tup (.of upd_same) (.cons .str (.cons .str (.cons .str .nil))))⟩
    · exact h.elim
  · exact h.elim
end
/-! ### text * number -/
section
variable {X : Cx} {G : Ga} {W : WX}
def rMulS : R2 := fun x y H Q => ∃ a n, x = .str a ∧ y = .int n ∧ a.length ≤ 1000 ∧ 1 ≤ n ∧ n ≤ 1000 ∧ Q (.str (Txt.mul a n)) H
theorem op_mulS : OpR X (binaryOp .Mult) rMulS := by
  intro pins s σ H x y v u Q I rx ry h
  obtain ⟨a, n, rfl, rfl, h1, h2, h3, q⟩ := h
  obtain ⟨t, rfl⟩ := rx
  obtain ⟨t2, rfl⟩ := ry
  have h63 : (2 : Int) ^ 63 = 9223372036854775808 := by decide
  refine SB.mul ⟨?_, fun _ _ => ?_, fun _ _ => ?_⟩ fun t' k => ⟨.str (Txt.mul a n), H, I.tok k, ⟨t', rfl⟩, q⟩
  · rw [Bool.or_eq_false_iff]
    exact ⟨decide_eq_false (by omega), decide_eq_false (by omega)⟩
  · have : (1000 : Int) ≤ (2 ^ 63 - 1) / n := Int.le_ediv_of_mul_le (by omega) (by rw [h63]; omega)
    omega
  · have h5 : a.length * n.toNat ≤ 1000 * 1000 := Nat.mul_le_mul h1 (by omega)
    have : ¬ (Builtin.Str.tooLong (a.length * n.toNat) = true) := fun z => by
      have z' : a.length * n.toNat > sizeLine := of_decide_eq_true z
      rw [sizeLine_eq] at z'
      omega
    cases hh : Builtin.Str.tooLong (a.length * n.toNat) with
    | false => rfl
    | true => exact absurd hh this
def mulS (x y : D) (S : Sto) : Res D := match x, y with
  | .str a, .int n => if a.length ≤ 1000 ∧ 1 ≤ n ∧ n ≤ 1000 then .ok (.str (Txt.mul a n)) S else .stuck
  | _, _ => .stuck
theorem s_mulS {K : PySem.W.Frag} : OpS K G W mulS rMulS := by
  intro φ S σ H d1 d2 v1 v2 Q em r1 r2 h
  unfold mulS at h
  split at h
  · split at h
    · rename_i hz
      cases r1; cases r2
      exact ⟨_, _, rfl, rfl, hz.1, hz.2.1, hz.2.2, outR.ok (R := rE K G) h em .str⟩
    · exact h.elim
  · exact h.elim
end
/-! ### zip(list, list), both values -/
section
variable {X : Cx} {G : Ga} {W : WX} {k : Nat}
def zLL (ds es : List D) (i : Nat) (_ : Sto) : Option (Option D) := match ds[i]?, es[i]? with
  | some c, some d => some (some (.tup [c, d]))
  | _, _ => some none
def itZip (xs : List D) (S : Sto) : Option MIt := match xs with
  | [.vl ds, .vl es] => some ⟨zLL ds es, ds.length + es.length + 1⟩
  | _ => none
def miZip (ms : MAr) : MIx := fun ρ S => (ms ρ S).it itZip
theorem i_zip {e e2 : Expr} {ms : MAr} {p pos tpos : Pos} {elts : List Expr} {kk : Nat} (hm : X.mg "zip" = none) (ha : PA X [e, e2] (wpA X.K G W ms)) (hg : Gl X "zip" := by rfl)
    (hs : starEach [e, e2] X.env = (false, eval e X.env) :: starEach [e2] X.env := by rfl) (hpl : (backTo pos (starEach [e2] X.env)).any (·.1) = false := by rfl) :
    PI X (.Tuple elts kk tpos) (.Call (.Name "zip" p) [e, e2] [] pos) (wpI X.K G W (miZip ms)) := by
  refine pi_conv (pi_zip hg hm ha hs hpl) ?_
  rintro σ H R ⟨φ, ρ, S, em, rs, h⟩
  refine ⟨φ, ρ, S, em, rs, it_core h fun xs S1 φ1 vs H1 it x1 em1 rv hf hR => ?_⟩
  unfold itZip at hf
  split at hf
  · rename_i ds es
    cases hf
    cases rv with
    | cons r1 rr =>
      cases rr with
      | cons r2 rr =>
        cases rr
        cases r1 with
        | @vl _ ws a n q r hp =>
          cases r2 with
          | @vl _ ws2 a2 n2 q2 r2' hp2 =>
            refine ⟨a, a2, ws, ws2, rfl, .inl (.inl q), .inl (.inl q2), hR _ ?_⟩
            intro i φ' S' H' x em'
            have q' : H' a = some (.lst ws) := x.out _ _ n q
            have q2' : H' a2 = some (.lst ws2) := x.out _ _ n2 q2
            have rw' : RVs X.K G H' φ' ds ws := RVs.ext x r
            have rw2 : RVs X.K G H' φ' es ws2 := RVs.ext x r2'
            have sq : SqL X.K H' a ws := .inl (.inl q')
            have sq2 : SqL X.K H' a2 ws2 := .inl (.inl q2')
            show match zLL ds es i S' with | none => True | some none => _ | some (some d) => _
            unfold zLL
            cases e1 : ds[i]? with
            | none => exact ⟨ws, ws2, sq, sq2, .inl (by rw [← RVs.length rw']; exact List.getElem?_eq_none_iff.mp e1)⟩
            | some c =>
              cases e2 : es[i]? with
              | none => exact ⟨ws, ws2, sq, sq2, .inr (by rw [← RVs.length rw2]; exact List.getElem?_eq_none_iff.mp e2)⟩
              | some d =>
                obtain ⟨v, ev, rv⟩ := RVs.get rw' e1
                obtain ⟨v2, ev2, rv2⟩ := RVs.get rw2 e2
                refine ⟨⟨ws, ws2, v, v2, sq, sq2, ev, ev2⟩, ?_⟩
                rintro y H'' ⟨T, x0, y0, rfl, hT, rfl, hx, hy⟩
                have h1 := hx ws sq
                rw [ev] at h1
                cases h1
                have h2 := hy ws2 sq2
                rw [ev2] at h2
                cases h2
                exact ⟨.other hT, em'.other hT, .tup (.of upd_same) (.cons (RV.ext (.other hT) rv) (.cons (RV.ext (.other hT) rv2) .nil))⟩
  · cases hf
end
end MP

set_option Elab.async false
set_option linter.all false
set_option maxRecDepth 100000
set_option maxHeartbeats 4000000
namespace MP
open PySem PySem.Spec PyProof.Rows L2
/-! ### a method called where an exception is handled: it raises nothing -/
structure FnT (P : Program) (w : World) (K : PySem.W.Frag) (mg : Str → Option Value) (base : Heap) (CX : CXT) (k : Nat) (f : Addr) (fd : FuncData) (ps : List Str) (sp : Sp) : Prop where
  len : ∀ vs H Q E, sp vs H Q E → vs.length = ps.length
  run : ∀ (A : Around) (outer : List Env) (s : Shared) (H : Hp) (args : Args) (us : List Value) (vs : List V) (Q : VK) (E : XK), L2H.RoomH k A → Env0 P w K mg base A outer s H → BindsTo s fd args (ps.zip us) → Vals vs us → sp vs H Q E →
    codeAny (model P w) A (.call (.ref f) args) (CR CX outer P w H s Q E) s
def cxT (CX : CXT) (P : Program) (w : World) (K : PySem.W.Frag) (mg : Str → Option Value) (base : Heap) (N : List Str) (qual : Str) (scope : Scope) (f : Addr) (cd : Value) (A : Around) (outer : List Env) (s : Shared) (H : Hp) (E : XK) : Cx :=
  { cxOf CX P w K mg base N qual scope f cd A outer s H E with calm := false }
theorem inv_startT {CX : CXT} {P : Program} {w : World} {K : PySem.W.Frag} {mg : Str → Option Value} {base : Heap} {N ps : List Str} {qual : Str} {scope : Scope} {f : Addr} {cd : Value} {A : Around} {outer : List Env} {s s1 : Shared} {H : Hp} {E : XK} {us : List Value} {vs : List V}
    (S : FnScope N ps scope) (e0 : Env0 P w K mg base A outer s H) (hl : vs.length = ps.length) (r : Vals vs us)
    (x : InCallC s s.heap.objs.size (bindL (envOfC qual scope s.heap.objs.size f cd).kindOf (ps.zip us) fun _ => none) (cellsFrom (s.heap.objs.size + 1) scope.names []) (bindC (envOfC qual scope s.heap.objs.size f cd).kindOf (ps.zip us) fun _ => none) s1) :
    Inv (cxT CX P w K mg base N qual scope f cd A outer s H E) [] (L2.start N vs) H s1 := by
  have hpl : ps.length ≤ N.length := by have := congrArg List.length S.pre; rw [List.length_take] at this; omega
  obtain ⟨h1, tk, rfl, hk⟩ := x.done
  have noA : ∀ b : Addr, b ∉ (cxT CX P w K mg base N qual scope f cd A outer s H E).ex := fun b z => absurd (show b ∈ ([] : List Addr) from z) (by simp)
  refine ⟨⟨e0.mod, S.kind, rfl, rfl, Nat.le_refl _, fun y z c h1 h2 => ?_, fun y hy => ?_, fun y c _ h => ?_, (fun z => Bool.noConfusion (show false = true from z)), Around.frames_deeper e0.frames, .inr ⟨rfl, rfl⟩, fun b z => absurd z (noA b), e0.bs, e0.bsz, fun b _ _ => noA b, fun b z => absurd z (noA b), e0.funs, e0.frf⟩,
    rfl, e0.bare, Un.kept hk, ⟨_, x.toInCall.ns, fun i y v h1 h2 h3 => ?_⟩, fun y c h => ⟨_, x.cell y c h⟩, e0.hok.fresh (Nat.le_refl _), fun y c h => ?_, fun p hp => absurd (show p ∈ ([] : List (Addr × Obj)) from hp) (by simp), e0.hok.kept hk, ?_⟩
  · exact name_of_addr x.apart (PySem.mem_of_lookup h1) (PySem.mem_of_lookup h2)
  · have hy : scope.names.lookup y = some .cell ∨ scope.names.lookup y = some .free := hy
    rcases hy with hy | hy
    · exact cell_has hy
    · exact absurd rfl (S.nofree _ (PySem.mem_of_lookup hy))
  · exact Nat.le_of_lt (x.above y c (PySem.mem_of_lookup h))
  · have hi : i < vs.length := by
      unfold L2.start at h2
      by_cases hi : i < vs.length
      · exact hi
      · rw [List.getElem?_append_right (by simpa using hi)] at h2
        rw [List.getElem?_replicate] at h2
        split at h2 <;> cases h2
    have ha : vs[i]? = some v := by
      unfold L2.start at h2
      rw [List.getElem?_append_left (by simpa using hi), List.getElem?_map] at h2
      cases e : vs[i]? with
      | none => rw [e] at h2; cases h2
      | some a => rw [e] at h2; cases h2; rfl
    obtain ⟨u, hu, rv⟩ := r.get ha
    have hp : ps[i]? = some y := by
      rw [← S.pre, List.getElem?_take_of_lt (by omega)]; exact h1
    have ndP : ps.Nodup := by rw [← S.pre]; exact S.nd.sublist (List.take_sublist _ _)
    refine ⟨u, rv, ?_⟩
    rcases S.par y (List.mem_of_getElem? hp) with k | k
    · exact .inl ⟨k, bindL_get ndP hp hu k⟩
    · obtain ⟨c, e⟩ := cell_has (n := s.heap.objs.size + 1) k
      refine .inr ⟨.inl k, c, e, ?_⟩
      have q := x.cell y c e
      rw [bindC_get ndP hp hu (by show scope.names.lookup y ≠ _; rw [k]; decide)] at q
      exact q
  · exact e0.hok.fresh (Nat.le_of_lt (x.above y c (PySem.mem_of_lookup h)))
  · unfold L2.start
    show _ = N.length
    rw [List.length_append, List.length_map, List.length_replicate]
    omega
theorem fn_ofT {CX : CXT} {P : Program} {w : World} {K : PySem.W.Frag} {mg : Str → Option Value} {base : Heap} {k : Nat} {f : Addr} {name qual : Str} {params : Arguments} {body : List Stmt} {scope : Scope} {dV kV doc pm cdv ct oc : Value} {an od : Option Addr}
    {osl : Array (Option Value)} {N ps : List Str} {sp : Sp} (lk : K.lookup f = some ⟨oc, od, .func (PySem.W.fnOf name qual params body scope dV kV doc pm an cdv ct), osl⟩) (hcd : PySem.W.codeIn K cdv qual = true) (S : FnScope N ps scope)
    (len : ∀ vs H Q E, sp vs H Q E → vs.length = ps.length)
    (hbody : ∀ (A : Around) (outer : List Env) (s : Shared) (H : Hp) (vs : List V) (Q : VK) (E : XK), sp vs H Q E →
      ∃ t, PSs (cxT CX P w K mg base N qual scope f cdv A outer s H E) body t ∧ t { nx := fun _ H' => Q .non H', rt := Q } (L2.start N vs) H) :
    FnT P w K mg base CX (k + 1) f (PySem.W.fnOf name qual params body scope dV kV doc pm an cdv ct) ps sp := by
  refine ⟨len, fun A outer s H args us vs Q E hr e0 hb r hsp => ?_⟩
  have hl := len _ _ _ _ hsp
  have KX : K.In s.heap := e0.mod.kin.keeps fun b o e => (e0.bs b o e).1
  have lim : s.heap.NoLimit := e0.mod.nolimit.keeps fun b o e => (e0.bs b o e).1
  have hkind : ∀ y ∈ ps.zip us, scope.names.lookup y.1 = some .local ∨ (scope.names.lookup y.1 = some .cell ∧ ((cellsFrom (s.heap.objs.size + 1) scope.names []).lookup y.1).isSome = true) := fun ⟨n, v⟩ hy => by
    rcases S.par n (List.of_mem_zip hy).1 with q | q
    · exact .inl q
    · exact .inr ⟨q, PySem.W.cellsFrom_some _ _ _ (.inl q)⟩
  refine codeAny_call_function hr.depth (KX _ _ lk) rfl S.co S.gen rfl (PySem.W.codeRec_of KX hcd) (hb _ _ _ _ ?_)
  refine wpAny_newFunctionEnv_cells S.kind hkind fun env he s1 x => ?_
  subst he
  refine ⟨lim.keeps x.toInCall.keep, codeAny_func ?_⟩
  obtain ⟨t, ht, hq⟩ := hbody A outer s H vs Q E hsp
  have I : Inv (cxT CX P w K mg base N qual scope f cdv A outer s H E) [] (L2.start N vs) H s1 := inv_startT S e0 hl r x
  refine wpAny_mono (ht.run [] s1 (L2.start N vs) H _ I hq) (fun fl s' hs => ?_) fun e s' hs => hs
  have fin : ∀ {σ' : L2.St} {H' : Hp} {v : V} {u : Value}, Inv (cxT CX P w K mg base N qual scope f cdv A outer s H E) [] σ' H' s' → RelV v u → Q v H' → CE outer P w H s Q u s' :=
    fun {σ' H' v u} J rv q => ⟨v, H', J.os, J.bare, J.base, J.hok, rv, q⟩
  cases fl with
  | ret u =>
    obtain ⟨v, σ', H', J, rv, q⟩ := hs
    exact fin J rv q
  | next =>
    obtain ⟨σ', H', J, q⟩ := hs
    exact fin (v := V.non) (u := Value.none) J rfl q
  | brk =>
    obtain ⟨_, _, _, q⟩ := hs
    exact False.elim q
  | cont =>
    obtain ⟨_, _, _, q⟩ := hs
    exact False.elim q
section
variable {P : Program} {w : World} {K : PySem.W.Frag} {mg : Str → Option Value} {base : Heap} {G : Ga}
theorem mk_fnT {x qual : Str} {st : Stmt} {f : Addr} {fd : FuncData} {N ps : List Str} {k : Nat} {m : MSt} (F : Fun K x qual st f fd) (S : FnScope N ps (defScope st))
    (hbody : ∀ (cdv : Value) (A : Around) (outer : List Env) (s : Shared) (H : Hp) (E : XK), PSs (cxT L2.CX0 P w K mg base N qual (defScope st) f cdv A outer s H E) (defBody st) (wpS K G W0 m)) :
    FnT P w K mg base L2.CX0 (k + 1) f fd ps (SpM K G (fun ds S => noX (fnB N.length m ds S)) ps.length) := by
  obtain ⟨oc, od, kV, doc, pm, an, cdv, ct, osl, rfl, lk, hcd⟩ := F.ex
  refine fn_ofT lk hcd S (fun vs H Q E h => h.len) fun A outer s H vs Q E h => ?_
  refine ⟨_, hbody cdv A outer s H E, ?_⟩
  obtain ⟨φ, S0, ds, em, rv, hl, h⟩ := h
  refine ⟨φ, _, S0, em, rs_start rv, ?_⟩
  have h : outR K G (fun c d _ H => E c d H) (rE K G) (noX (m (ds.map some ++ List.replicate (N.length - ds.length) none) S0).fn) φ [] H Q := h
  cases q : m (ds.map some ++ List.replicate (N.length - ds.length) none) S0 with
  | nx ρ S' => rw [q] at h; exact fun φ' σ' H' x em' rs' => h φ' .non H' x em' .non
  | rt d S' => rw [q] at h; exact fun φ' v H' x em' rv' => h φ' v H' x em' rv'
  | bk ρ S' => rw [q] at h; exact h.elim
  | ct ρ S' => rw [q] at h; exact h.elim
  | xc e ρ S' => rw [q] at h; exact h.elim
  | stuck => rw [q] at h; exact h.elim
end
structure FnCT (P : Program) (w : World) (K : PySem.W.Frag) (mg : Str → Option Value) (base : Heap) (G : Ga) (k : Nat) (c : Cl) (m : Str) (mf : MFn) (n : Nat) : Prop where
  ex : ∃ f fd ps, FnT P w K mg base L2.CX0 k f fd ps (SpM K G (fun ds S => noX (mf ds S)) n) ∧ Meth K (G.cl c) m f ∧ Binds K fd ps [] ∧ G.has c = true
section
variable {X : Cx} {G : Ga} {W : WX} {k : Nat}
theorem run_fnT {f : Addr} {fd : FuncData} {ps : List Str} {sp : Sp} {E : XK} {pins : List (Addr × Obj)} {σ : L2.St} {H : Hp} {s : Shared} {Q : VK} {us : List Value} {vs : List V} (F : FnT X.prog X.w X.K X.mg X.base L2.CX0 k f fd ps sp) (hr : L2H.RoomH k X.A) (hb : Binds X.K fd ps [])
    (I : Inv X pins σ H s) (r : Vals vs us) (h : sp vs H Q E) : wpAny (model X.prog X.w) X.A (call (.ref f) us) (EP X pins σ Q) X.xe s := by
  have hl : us.length = ps.length := by rw [← r.length]; exact F.len _ _ _ _ h
  have b := hb s us I.kIn (by rw [List.append_nil]; exact hl)
  rw [List.append_nil] at b
  refine wpAny_call (codeAny_mono (F.run X.A X.stack s H ⟨us, []⟩ us vs Q E hr I.env0 b r h) fun r s' hq => ?_)
  cases r with
  | error e => exact False.elim hq
  | ok fl =>
    cases fl with
    | ret u => exact I.after hq
    | next => exact False.elim hq
    | brk => exact False.elim hq
    | cont => exact False.elim hq
theorem pe_methT {C f : Addr} {fd : FuncData} {ps : List Str} {sp : Sp} {E : L2.St → XK} {m : Str} {o e : Expr} {es : List Expr} {ta : TE} {t : TA} {apos pos : Pos} {pl : Sem Bool} (he : PE X o ta) (c : Cls X.K C) (hm : Meth X.K C m f) (F : FnT X.prog X.w X.K X.mg X.base L2.CX0 k f fd ps sp) (hr : L2H.RoomH k X.A) (hb : Binds X.K fd ps [])
    (ha : PA X (e :: es) t)
    (hst : starEach (e :: es) X.env = (false, eval e X.env) :: starEach es X.env := by rfl) (hpl : (backTo pos (starEach es X.env)).any (·.1) = false := by rfl)
    (ht : eval (.Call (.Attribute o m apos) (e :: es) [] pos) X.env = (do
      let ov ← eval o X.env
      standAt apos.atName
      let (f, first) ← holding [ov] (getMethod ov m pl)
      callWith pos f first (backTo pos (starEach (e :: es) X.env)) (backToKw pos (keywordEach [] X.env))) := by rfl) :
    PE X (.Call (.Attribute o m apos) (e :: es) [] pos) (tMethS C m sp E ta t) := by
  refine ⟨fun pins s σ H Q I h => ?_⟩
  refine PySem.W.methodCall_KW (pl := pl) (thn (he.run pins s σ H _ I h) fun u s1 ⟨x, H1, I1, rx, a, dx, fs, ex, ea, l, q⟩ => ?_) ht
  subst ex
  obtain rfl : u = Value.ref a := rx
  refine getmeth_ok I1 ea c hm l ?_
  refine PySem.W.callWith_K (first := [.ref a]) (h₀ := X.base) I.ok.mod.kin hm.kp (thn (ha.run pos pins s1 σ H1 _ I1 q) fun us s2 ⟨vs, H2, I2, r, q2⟩ => ⟨I2.kIn, ?_⟩) hst hpl
  exact run_fnT (us := .ref a :: us) (vs := .ref a :: vs) F hr hb I2 (.cons rfl r) q2
theorem outR.noX' {K : PySem.W.Frag} {W W' : WX} {r : Res D} {φ : List Addr} {σ σ' : L2.St} {H : Hp} {Q : VK} (h : outR K G W (rE K G) (MP.noX r) φ σ H Q) : outR K G W' (rE K G) (MP.noX r) φ σ' H Q := by
  cases r with
  | ok a S => exact h
  | exc e S => exact h.elim
  | stuck => exact h.elim
def mMethT (c : Cl) (n : Nat) (mf : MFn) (mo : MEx) (ms : MAr) : MEx := mMeth c n (fun ds S => noX (mf ds S)) mo ms
theorem d_methT {c : Cl} {m : Str} {o e : Expr} {es : List Expr} {j n : Nat} {mf : MFn} {mo : MEx} {ms : MAr} {apos pos : Pos} {pl : Sem Bool} (F : FnCT X.prog X.w X.K X.mg X.base G j c m mf n) (g : Gok X.K G) (hr : L2H.RoomH k X.A) (he : PE X o (wpE X.K G W mo)) (ha : PA X (e :: es) (wpA X.K G W ms)) (hj : j ≤ k := by decide) (hn : noFld c m = true := by decide +kernel)
    (hst : starEach (e :: es) X.env = (false, eval e X.env) :: starEach es X.env := by rfl) (hpl : (backTo pos (starEach es X.env)).any (·.1) = false := by rfl)
    (ht : eval (.Call (.Attribute o m apos) (e :: es) [] pos) X.env = (do
      let ov ← eval o X.env
      standAt apos.atName
      let (f, first) ← holding [ov] (getMethod ov m pl)
      callWith pos f first (backTo pos (starEach (e :: es) X.env)) (backToKw pos (keywordEach [] X.env))) := by rfl) :
    PE X (.Call (.Attribute o m apos) (e :: es) [] pos) (wpE X.K G W (mMethT c n mf mo ms)) := by
  obtain ⟨f, fd, ps, hF, hm, hb, hh⟩ := F.ex
  refine pe_conv (pe_methT (E := fun _ _ _ _ => False) (pl := pl) he (g.cls c hh) hm hF (hr.mono hj) hb ha hst hpl ht) ?_
  rintro σ H Q ⟨φ, ρ, S, em, rs, h⟩
  refine ⟨φ, ρ, S, em, rs, h.bind fun o' S1 φ1 v H1 x em1 rv h1 => ?_⟩
  obtain ⟨h2, a, dx, fs, e1, e2, e3⟩ := self_ok hn em1 rv h1
  refine ⟨a, dx, fs, e1, e2, e3, φ1, ρ, S1, em1, rs.ext x, h2.bind fun ds S2 φ2 vs H2 x2 em2 rvs h3 => ?_⟩
  split at h3
  · rename_i hl
    exact ⟨φ2, S2, o' :: ds, em2, .cons (RV.ext x2 rv) rvs, hl, outR.noX' h3⟩
  · exact h3.elim
theorem roomS {a : Addr} {pn : List (Addr × Obj)} (d : DX X G W k) : L2H.RoomH k (X.suite a pn).A := ⟨d.hr.dp, d.hr.un⟩
end
section
variable {c : Cl} {n : Nat} {mf : MFn} {mo : MEx} {ms : MAr} {ρ : Rho} {S : Sto}
theorem r_methT : mMethT c n mf mo ms ρ S = kM1 (mo ρ S) c n (fun ds S => noX (mf ds S)) ms ρ := rfl
end
/-! ### a text in a text -/
section
variable {X : Cx} {G : Ga} {W : WX}
def inTx (x y : D) (S : Sto) : Res D := match x, y with
  | .str i, .str j => .ok (.bl (!(Builtin.Str.occurrences j i 0 j.length 1).isEmpty)) S
  | _, _ => .stuck
def rInTx : R2 := fun x y H Q => ∃ i j, x = .str i ∧ y = .str j ∧ Q (.bl (!(Builtin.Str.occurrences j i 0 j.length 1).isEmpty)) H
theorem op_inTx : OpR X (compareOp .In) rInTx := op_in_str
theorem s_inTx {K : PySem.W.Frag} : OpS K G W inTx rInTx := by
  intro φ S σ H d1 d2 v1 v2 Q em r1 r2 h
  unfold inTx at h
  split at h
  · cases r1; cases r2
    exact ⟨_, _, rfl, rfl, outR.ok (R := rE K G) h em .bl⟩
  · exact h.elim
end
end MP

set_option Elab.async false
set_option linter.all false
set_option maxRecDepth 100000
set_option maxHeartbeats 4000000
namespace MP
open PySem L2
/-! ### the text by places -/
def top (i : Nat) : Stmt := PySem.Challenge.pw_heapsafe_k80_logs_both_ways.main.body.getD i (.Pass ⟨0, 0, 0, 0⟩)
abbrev st_law_cell_at : Stmt := top 25
abbrev st_law_whole : Stmt := top 24
abbrev st_law_form : Stmt := top 32
abbrev st_law_drawn : Stmt := top 26
abbrev st_law_deed_by : Stmt := top 27
abbrev st_law_numbers : Stmt := top 29
abbrev st_law_log_row : Stmt := top 30
abbrev st_law_row : Stmt := top 28
abbrev st_law_log_text : Stmt := top 31
abbrev st_number_told : Stmt := top 8
abbrev st_part_told : Stmt := top 9
abbrev st_deed_told : Stmt := top 10
abbrev st_is_answer : Stmt := top 15
abbrev st_deed_row_told : Stmt := top 16
abbrev st_freed_told : Stmt := top 18
abbrev st_turn_told : Stmt := top 17
abbrev st_row_told : Stmt := top 19
abbrev st_log_read : Stmt := top 22
abbrev st_deed_shown : Stmt := top 11
abbrev st_row_shown : Stmt := top 20
abbrev st_log_shown : Stmt := top 21
abbrev st_law : Stmt := top 33
/-! ### the mirrors -/
def c_ANSWERS : List Str := ["ok", "yes", "no", "none", "thing", "nothing", "no thing", "no field", "no room"]
def c_FIGURES : D := .str "0123456789"
def c_FORMS : List (Str × Str) := [("num", "RN"), ("make", "RM"), ("weak", "RR"), ("pair", "RRR"), ("words", "RN"), ("put", "RNR"), ("get", "RRN"), ("look", "RR"), ("find", "RRR"), ("copy", "RR"), ("drop", "R"), ("tell", "R"), ("same", "RR"), ("hear", "R")]
def c_LETTERS : D := .str "abcdefghijklmnopqrstuvwxyz"
def c_LISTS : D := .int 7
def c_MOST_FIELDS : D := .int 8
/-- 0 _law_script, 1 _law_k -/
noncomputable def b_law_cell_at : MSt :=
 (sSeq (sIf (mTest (mOp2 (cmpI ltI) (mVar 1) (mCB cLen (aCons (mVar 0) aNil))))
 (sRet (mOp2 getI (mVar 0) (mVar 1)))
 sNil)
 (sRet (mC (.int 0))))
noncomputable def f_law_cell_at : MFn := fnB 2 b_law_cell_at
/-- 0 _law_found -/
noncomputable def b_law_whole : MSt :=
 (sRet (mAnd (mIsi "int" (mVar 0)) (mNot (mIsi "bool" (mVar 0)))))
noncomputable def f_law_whole : MFn := fnB 1 b_law_whole
/-- 0 _law_found, 1 _law_row_here, 2 _law_some, 3 _law_number -/
noncomputable def b_law_form : MSt :=
 (sSeq (sClr [1, 2] (sFor (miL (mVar 0)) (.nm 1)
 (sSeq (sIf (tNot' (mTest (mIsi "tuple" (mVar 1))))
 (sRet (mC (.bl false)))
 sNil)
 (sClr [1, 2] (sClr [2] (sFor (miT (mSl' false (mVar 1) (ptSome (mC (.int 1))) ptNone)) (.nm 2)
 (sClr [2] (sIf (mTest (mOp2 (inQ false) (mOp2 getI (mVar 1) (mC (.int 0))) (mLst false (aCons (mC (.str "turn")) (aCons (mC (.str "freed")) aNil)))))
 (sIf (tOr' (tNot' (mTest (mIsi "list" (mVar 2)))) (mTest (mOp2 neR (mLcV (miL (mVar 2)) (.nm 3) (tNot' (mTest (mCall 1 f_law_whole (aCons (mVar 3) aNil)))) (mVar 3) [3]) (mLst false aNil))))
 (sRet (mC (.bl false)))
 sNil)
 sNil))))))))
 (sRet (mC (.bl true))))
noncomputable def f_law_form : MFn := fnB 4 b_law_form
/-- 0 _law_cell, 1 _law_sizes, 2 _law_free, 3 _law_number, 4 _law_other, 5 _law_found, 6 _law_size -/
noncomputable def b_law_drawn : MSt :=
 (sSeq (sSet 3 (mCB cAbs (aCons (mVar 0) aNil)))
 (sSeq (sClr [4] (sIf (tNot' (mTest (mVar 2)))
 (sSeq (sSet 4 (mOp2 (intOp modI) (mOp2 (mulD false) (mOp2 (addD false) (mVar 0) (mC (.int 7))) (mC (.int 69621))) (mC (.int 2147483629))))
 (sSeq (sSet 4 (mOp2 (mulD false) (mOp2 (mulD false) (mOp2 (mulD false) (mOp2 (mulD false) (mOp2 (mulD false) (mVar 4) (mVar 4)) (mVar 4)) (mVar 4)) (mVar 4)) (mC (.int 982451653))))
 (sSet 3 (mOp2 (addD false) (mOp2 (intOp modI) (mOp2 (mulD false) (mVar 0) (mC (.int 1583458089))) (mC (.int 2147483647))) (mOp2 (mulD false) (mC (.int 2147483647)) (mVar 4))))))
 sNil))
 (sSeq (sScp (sSeq (sSet 5 (mLst true aNil))
 (sClr [6] (sFor (miL (mVar 1)) (.nm 6)
 (sSeq (sExpr (mBM isL lAppend (mVar 5) (aCons (mOp2 (intOp modI) (mVar 3) (mVar 6)) aNil)))
 (sClr [6] (sSet 3 (mOp2 (intOp fdivI) (mVar 3) (mVar 6)))))))))
 (sRet (mOp2 (addD false) (mVar 5) (mLst false (aCons (mVar 3) aNil)))))))
noncomputable def f_law_drawn : MFn := fnB 7 b_law_drawn
/-- 0 _law_cell, 1 _law_free, 2 _law_words, 3 _law_signs, 4 _law_which, 5 _law_one, 6 _law_two, 7 _law_three, 8 _law_at, 9 _law_few, 10 _law_far, 11 _law_rest, 12 _law_word, 13 _law_number -/
noncomputable def b_law_deed_by : MSt :=
 (sSeq (sScp (sSeq (sSet 2 (mLst true (aCons (mC (.str "num")) (aCons (mC (.str "make")) (aCons (mC (.str "weak")) (aCons (mC (.str "pair")) (aCons (mC (.str "words")) (aCons (mC (.str "put")) (aCons (mC (.str "get")) (aCons (mC (.str "look")) (aCons (mC (.str "find")) (aCons (mC (.str "copy")) (aCons (mC (.str "drop")) (aCons (mC (.str "tell")) (aCons (mC (.str "same")) aNil)))))))))))))))
 (sExpr (mBM isL lAppend (mVar 2) (aCons (mC (.str "hear")) aNil)))))
 (sSeq (sSet 3 (mC (.str "abcdefghijklmnopqrstuvwxyz")))
 (sSeq (sAsg (.tp [4, 5, 6, 7, 8, 9, 10, 11]) (mCall 3 f_law_drawn (aCons (mVar 0) (aCons (mLst false (aCons (mC (.int 14)) (aCons (mC (.int 26)) (aCons (mC (.int 26)) (aCons (mC (.int 26)) (aCons (mC (.int 9)) (aCons (mC (.int 4)) (aCons (mOp2 (intOp powI) (mC (.int 10)) (mC (.int 60))) aNil)))))))) (aCons (mVar 1) aNil)))))
 (sSeq (sSet 12 (mOp2 getI (mVar 2) (mVar 4)))
 (sSeq (sSet 5 (mAlt (mOp2 getI (mVar 3) (mVar 5)) (mOp2 dGet (mVar 3) (mVar 5))))
 (sSeq (sSet 6 (mAlt (mOp2 getI (mVar 3) (mVar 6)) (mOp2 dGet (mVar 3) (mVar 6))))
 (sSeq (sSet 13 (mOp2 getI (mLst false (aCons (mVar 8) (aCons (mVar 10) aNil))) (mCB cInt (aCons (mOp2 eqR (mVar 9) (mC (.int 0))) aNil))))
 (sSeq (sIf (mTest (mOp2 eqR (mVar 12) (mC (.str "make"))))
 (sRet (mTup (aCons (mVar 12) (aCons (mVar 5) (aCons (mVar 8) aNil)))))
 sNil)
 (sSeq (sIf (mTest (mOp2 (inQ false) (mVar 12) (mLst false (aCons (mC (.str "num")) (aCons (mC (.str "words")) aNil)))))
 (sRet (mTup (aCons (mVar 12) (aCons (mVar 5) (aCons (mVar 13) aNil)))))
 sNil)
 (sSeq (sIf (mTest (mOp2 eqR (mVar 12) (mC (.str "put"))))
 (sRet (mTup (aCons (mVar 12) (aCons (mVar 5) (aCons (mVar 13) (aCons (mVar 6) aNil))))))
 sNil)
 (sSeq (sIf (mTest (mOp2 eqR (mVar 12) (mC (.str "get"))))
 (sRet (mTup (aCons (mVar 12) (aCons (mVar 5) (aCons (mVar 6) (aCons (mVar 13) aNil))))))
 sNil)
 (sSeq (sIf (mTest (mOp2 (inQ false) (mVar 12) (mLst false (aCons (mC (.str "pair")) (aCons (mC (.str "find")) aNil)))))
 (sRet (mTup (aCons (mVar 12) (aCons (mVar 5) (aCons (mVar 6) (aCons (mAlt (mOp2 getI (mVar 3) (mVar 7)) (mOp2 dGet (mVar 3) (mVar 7))) aNil))))))
 sNil)
 (sSeq (sIf (mTest (mOp2 (inQ false) (mVar 12) (mLst false (aCons (mC (.str "drop")) (aCons (mC (.str "tell")) (aCons (mC (.str "hear")) aNil))))))
 (sRet (mTup (aCons (mVar 12) (aCons (mVar 5) aNil))))
 sNil)
 (sRet (mTup (aCons (mVar 12) (aCons (mVar 5) (aCons (mVar 6) aNil))))))))))))))))))
noncomputable def f_law_deed_by : MFn := fnB 14 b_law_deed_by
/-- 0 _law_number, 1 _law_many, 2 _law_found, 3 _law_k -/
noncomputable def b_law_numbers : MSt :=
 (sSeq (sScp (sSeq (sSet 2 (mLst true aNil))
 (sClr [3] (sFor (miR1 (aCons (mVar 1) aNil)) (.nm 3)
 (sSeq (sExpr (mBM isL lAppend (mVar 2) (aCons (mOp2 getI (mLst false (aCons (mOp2 (intOp modI) (mVar 0) (mC (.int 20))) (aCons (mOp2 (intOp modI) (mVar 0) (mOp2 (intOp powI) (mC (.int 10)) (mC (.int 60)))) aNil))) (mCB cInt (aCons (mOp2 eqR (mOp2 (intOp modI) (mOp2 (intOp fdivI) (mVar 0) (mC (.int 20))) (mC (.int 9))) (mC (.int 8))) aNil))) aNil)))
 (sClr [3] (sSet 0 (mOp2 (intOp fdivI) (mVar 0) (mC (.int 180))))))))))
 (sRet (mTup (aCons (mVar 2) (aCons (mVar 0) aNil)))))
noncomputable def f_law_numbers : MFn := fnB 4 b_law_numbers
/-- 0 _law_cell, 1 _law_free, 2 _law_way, 3 _law_many, 4 _law_ans, 5 _law_rest, 6 _law_answers, 7 _law_parts, 8 _law_k, 9 _law_some -/
noncomputable def b_law_log_row : MSt :=
 (sSeq (sAsg (.tp [2, 3, 4, 5]) (mCall 3 f_law_drawn (aCons (mVar 0) (aCons (mLst false (aCons (mC (.int 12)) (aCons (mC (.int 6)) (aCons (mC (.int 12)) aNil)))) (aCons (mVar 1) aNil)))))
 (sSeq (sClr [6] (sIf (mTest (mOp2 (cmpI ltI) (mVar 2) (mC (.int 7))))
 (sSeq (sSet 6 (mLst false (aCons (mC (.str "ok")) (aCons (mC (.str "yes")) (aCons (mC (.str "no")) (aCons (mC (.str "none")) (aCons (mC (.str "thing")) (aCons (mC (.str "nothing")) (aCons (mC (.str "no thing")) (aCons (mC (.str "no field")) (aCons (mC (.str "no room")) (aCons (mC (.str "0")) aNil))))))))))))
 (sSeq (sSet 6 (mOp2 (addD false) (mVar 6) (mLst false (aCons (mCB cStr (aCons (mOp2 (intOp modI) (mVar 5) (mC (.int 1000))) aNil)) (aCons (mCB cStr (aCons (mOp2 (intOp modI) (mVar 5) (mOp2 (intOp powI) (mC (.int 10)) (mC (.int 60)))) aNil)) aNil)))))
 (sRet (mTup (aCons (mC (.str "deed")) (aCons (mCall 2 f_law_deed_by (aCons (mOp2 (intOp fdivI) (mVar 5) (mC (.int 7))) (aCons (mC (.bl true)) aNil))) (aCons (mOp2 getI (mVar 6) (mVar 4)) aNil)))))))
 sNil))
 (sSeq (sIf (mTest (mOp2 (cmpI ltI) (mVar 2) (mC (.int 9))))
 (sRet (mTup (aCons (mC (.str "freed")) (aCons (mOp2 getI (mCall 2 f_law_numbers (aCons (mVar 5) (aCons (mVar 3) aNil))) (mC (.int 0))) aNil))))
 sNil)
 (sSeq (sIf (mTest (mOp2 eqR (mVar 2) (mC (.int 9))))
 (sRet (mTup (aCons (mOp2 getI (mLst false (aCons (mC (.str "begin")) (aCons (mC (.str "end")) (aCons (mC (.str "packed")) aNil)))) (mOp2 (intOp modI) (mVar 3) (mC (.int 3)))) aNil)))
 sNil)
 (sSeq (sScp (sSeq (sSet 7 (mLst true aNil))
 (sClr [8, 9, 5] (sFor (miR1 (aCons (mC (.int 7)) aNil)) (.nm 8)
 (sSeq (sAsg (.tp [9, 5]) (mCall 2 f_law_numbers (aCons (mOp2 (intOp fdivI) (mVar 5) (mC (.int 6))) (aCons (mOp2 getI (mLst false (aCons (mOp2 (intOp modI) (mVar 5) (mC (.int 6))) (aCons (mC (.int 0)) aNil))) (mOp2 (intOp modI) (mVar 2) (mC (.int 2)))) aNil))))
 (sClr [8, 9] (sExpr (mBM isL lAppend (mVar 7) (aCons (mVar 9) aNil)))))))))
 (sRet (mOp2 catT (mTup (aCons (mC (.str "turn")) aNil)) (mCB cTuple (aCons (mVar 7) aNil)))))))))
noncomputable def f_law_log_row : MFn := fnB 10 b_law_log_row
/-- 0 _law_deed, 1 _law_found, 2 _law_part -/
noncomputable def b_law_row : MSt :=
 (sSeq (sSet 1 (mOp2 getI (mVar 0) (mC (.int 0))))
 (sSeq (sClr [2] (sFor (miT (mSl' false (mVar 0) (ptSome (mC (.int 1))) ptNone)) (.nm 2)
 (sClr [2] (sSet 1 (mOp2 (addD false) (mOp2 (addD false) (mVar 1) (mC (.str " "))) (mCB cStrS (aCons (mVar 2) aNil)))))))
 (sRet (mVar 1))))
noncomputable def f_law_row : MFn := fnB 3 b_law_row
/-- 0 _law_row_here, 1 _law_text, 2 _law_some, 3 _law_serial -/
noncomputable def b_law_log_text : MSt :=
 (sSeq (sIf (mTest (mOp2 eqR (mOp2 getI (mVar 0) (mC (.int 0))) (mC (.str "deed"))))
 (sRet (mOp2 (addD false) (mOp2 (addD false) (mCall 1 f_law_row (aCons (mOp2 getI (mVar 0) (mC (.int 1))) aNil)) (mC (.str " -> "))) (mOp2 getI (mVar 0) (mC (.int 2)))))
 sNil)
 (sSeq (sSet 1 (mOp2 getI (mVar 0) (mC (.int 0))))
 (sSeq (sClr [2, 3] (sFor (miT (mSl' false (mVar 0) (ptSome (mC (.int 1))) ptNone)) (.nm 2)
 (sSeq (sIf (mTest (mOp2 eqR (mOp2 getI (mVar 0) (mC (.int 0))) (mC (.str "turn"))))
 (sSet 1 (mOp2 (addD false) (mVar 1) (mC (.str " |"))))
 sNil)
 (sClr [2, 3] (sClr [3] (sAlt (sFor (miL (mVar 2)) (.nm 3)
 (sClr [3] (sSet 1 (mOp2 (addD false) (mOp2 (addD false) (mVar 1) (mC (.str " "))) (mCB cStrS (aCons (mVar 3) aNil)))))) (sLk (mVar 2) (sFor (miK (mVar 2)) (.nm 3)
 (sClr [3] (sSet 1 (mOp2 (addD false) (mOp2 (addD false) (mVar 1) (mC (.str " "))) (mCB cStrS (aCons (mVar 3) aNil)))))))))))))
 (sRet (mVar 1)))))
noncomputable def f_law_log_text : MFn := fnB 4 b_law_log_text
/-- 0 text, 1 sign -/
noncomputable def b_number_told : MSt :=
 (sSeq (sIf (tOr' (tNot' (mTest (mChn (cmpI leI) (cmpI leI) (mC (.int 1)) (mCB cLen (aCons (mVar 0) aNil)) (mC (.int 60))))) (tAnd' (mTest (mOp2 eqR (mOp2 getI (mVar 0) (mC (.int 0))) (mC (.str "0")))) (mTest (mOp2 neR (mVar 0) (mC (.str "0"))))))
 (sRet (mC .non))
 sNil)
 (sSeq (sClr [1] (sFor (miS (mVar 0)) (.nm 1)
 (sClr [1] (sIf (mTest (mOp2 (inS1 true) (mVar 1) (mC c_FIGURES)))
 (sRet (mC .non))
 sNil))))
 (sRet (mCB cIntT (aCons (mVar 0) aNil)))))
noncomputable def f_number_told : MFn := fnB 2 b_number_told
/-- 0 form, 1 text, 2 number -/
noncomputable def b_part_told : MSt :=
 (sSeq (sIf (mTest (mOp2 eqR (mVar 0) (mC (.str "R"))))
 (sSeq (sIf (tAnd' (mTest (mOp2 eqR (mCB cLen (aCons (mVar 1) aNil)) (mC (.int 1)))) (mTest (mOp2 (inS1 false) (mVar 1) (mC c_LETTERS))))
 (sRet (mVar 1))
 sNil)
 (sRet (mC .non)))
 sNil)
 (sSeq (sSet 2 (mCall 1 f_number_told (aCons (mVar 1) aNil)))
 (sSeq (sIf (tAnd' (mTest (mOp2 isNotD (mVar 2) (mC .non))) (tAnd' (mTest (mOp2 eqR (mVar 0) (mC (.str "M")))) (mTest (mOp2 (cmpI gtI) (mVar 2) (mC c_MOST_FIELDS)))))
 (sRet (mC .non))
 sNil)
 (sRet (mVar 2)))))
noncomputable def f_part_told : MFn := fnB 3 b_part_told
/-- 0 text, 1 words, 2 form, 3 parts, 4 sign, 5 word, 6 part -/
noncomputable def b_deed_told : MSt :=
 (sSeq (sSet 1 (mBM isStr (splD false) (mVar 0) (aCons (mC (.str " ")) aNil)))
 (sSeq (sSet 2 (mOp2 (kGetS c_FORMS) (mOp2 getI (mVar 1) (mC (.int 0))) (mC (.str ""))))
 (sSeq (sIf (tOr' (mTest (mOp2 eqR (mVar 2) (mC (.str "")))) (mTest (mOp2 neR (mCB cLen (aCons (mVar 1) aNil)) (mOp2 (addD false) (mCB cLen (aCons (mVar 2) aNil)) (mC (.int 1))))))
 (sRet (mC .non))
 sNil)
 (sSeq (sSet 3 (mLcV (miZTL (aCons (mVar 2) (aCons (mSl' false (mVar 1) (ptSome (mC (.int 1))) ptNone) aNil))) (.tp [4, 5]) tYesM (mCall 2 f_part_told (aCons (mVar 4) (aCons (mVar 5) aNil))) [4, 5]))
 (sSeq (sIf (mTest (mCB cAny (aCons (mLcV (miL (mVar 3)) (.nm 6) tYesM (mOp2 isD (mVar 6) (mC .non)) [6]) aNil)))
 (sRet (mC .non))
 sNil)
 (sRet (mCB cTuple (aCons (mOp2 (addD false) (mSl' false (mVar 1) ptNone (ptSome (mC (.int 1)))) (mVar 3)) aNil))))))))
noncomputable def f_deed_told : MFn := fnB 7 b_deed_told
/-- 0 text -/
noncomputable def b_is_answer : MSt :=
 (sRet (mOr (mOp2 (inQ false) (mVar 0) (mC (.tup (c_ANSWERS.map .str)))) (mOp2 isNotD (mCall 1 f_number_told (aCons (mVar 0) aNil)) (mC .non))))
noncomputable def f_is_answer : MFn := fnB 1 b_is_answer
/-- 0 start, 1 answer, 2 deed -/
noncomputable def b_deed_row_told : MSt :=
 (sSeq (sSet 2 (mCall 1 f_deed_told (aCons (mVar 0) aNil)))
 (sSeq (sIf (tOr' (mTest (mOp2 isD (mVar 2) (mC .non))) (tNot' (mTest (mCall 1 f_is_answer (aCons (mVar 1) aNil)))))
 (sRet (mC .non))
 sNil)
 (sRet (mTup (aCons (mC (.str "deed")) (aCons (mVar 2) (aCons (mVar 1) aNil)))))))
noncomputable def f_deed_row_told : MFn := fnB 3 b_deed_row_told
/-- 0 words, 1 some, 2 word, 3 number -/
noncomputable def b_freed_told : MSt :=
 (sSeq (sSet 1 (mLc (miL (mVar 0)) (.nm 2) tYesM (mCall 1 f_number_told (aCons (mVar 2) aNil)) [2]))
 (sSeq (sIf (mTest (mCB cAny (aCons (mLcV (miL (mVar 1)) (.nm 3) tYesM (mOp2 isD (mVar 3) (mC .non)) [3]) aNil)))
 (sRet (mC .non))
 sNil)
 (sRet (mTup (aCons (mC (.str "freed")) (aCons (mVar 1) aNil))))))
noncomputable def f_freed_told : MFn := fnB 4 b_freed_told
/-- 0 words, 1 parts, 2 word -/
noncomputable def b_turn_told : MSt :=
 (sSeq (sSet 1 (mLst true aNil))
 (sSeq (sClr [2] (sFor (miL (mVar 0)) (.nm 2)
 (sClr [2] (sIf (mTest (mOp2 eqR (mVar 2) (mC (.str "|"))))
 (sExpr (mBM isL lAppend (mVar 1) (aCons (mLst true aNil) aNil)))
 (sIf (tOr' (mTest (mOp2 eqR (mVar 1) (mLst false aNil))) (mTest (mOp2 isD (mCall 1 f_number_told (aCons (mVar 2) aNil)) (mC .non))))
 (sRet (mC .non))
 (sExpr (mBM isL lAppend (mOp2 getI (mVar 1) (mOp1 negD (mC (.int 1)))) (aCons (mCall 1 f_number_told (aCons (mVar 2) aNil)) aNil))))))))
 (sSeq (sIf (mTest (mOp2 neR (mCB cLen (aCons (mVar 1) aNil)) (mC c_LISTS)))
 (sRet (mC .non))
 sNil)
 (sRet (mOp2 catT (mTup (aCons (mC (.str "turn")) aNil)) (mCB cTuple (aCons (mVar 1) aNil)))))))
noncomputable def f_turn_told : MFn := fnB 3 b_turn_told
/-- 0 row, 1 start, 2 arrow, 3 answer, 4 words -/
noncomputable def b_row_told : MSt :=
 (sSeq (sAsg (.tp [1, 2, 3]) (mBM isStr parD (mVar 0) (aCons (mC (.str " -> ")) aNil)))
 (sSeq (sIf (mTest (mOp2 neR (mVar 2) (mC (.str ""))))
 (sRet (mCall 2 f_deed_row_told (aCons (mVar 1) (aCons (mVar 3) aNil))))
 sNil)
 (sSeq (sIf (mTest (mOp2 (inQ false) (mVar 0) (mLst false (aCons (mC (.str "begin")) (aCons (mC (.str "end")) (aCons (mC (.str "packed")) aNil))))))
 (sRet (mTup (aCons (mVar 0) aNil)))
 sNil)
 (sSeq (sSet 4 (mBM isStr (splD false) (mVar 0) (aCons (mC (.str " ")) aNil)))
 (sSeq (sIf (mTest (mOp2 eqR (mOp2 getI (mVar 4) (mC (.int 0))) (mC (.str "turn"))))
 (sRet (mCall 1 f_turn_told (aCons (mSl' false (mVar 4) (ptSome (mC (.int 1))) ptNone) aNil)))
 sNil)
 (sSeq (sIf (mTest (mOp2 eqR (mOp2 getI (mVar 4) (mC (.int 0))) (mC (.str "freed"))))
 (sRet (mCall 1 f_freed_told (aCons (mSl' false (mVar 4) (ptSome (mC (.int 1))) ptNone) aNil)))
 sNil)
 (sRet (mC .non))))))))
noncomputable def f_row_told : MFn := fnB 5 b_row_told
/-- 0 text, 1 found, 2 number, 3 part, 4 row -/
noncomputable def b_log_read : MSt :=
 (sSeq (sIf (mTest (mOp2 eqR (mVar 0) (mC (.str ""))))
 (sRet (mLst true aNil))
 sNil)
 (sSeq (sSet 1 (mLst true aNil))
 (sSeq (sClr [2, 3, 4] (sFor (miEn1 (aCons (mBM isStr (splD false) (mVar 0) (aCons (mC (.str "\n")) aNil)) aNil)) (.tp [2, 3])
 (sSeq (sSet 4 (mCall 1 f_row_told (aCons (mVar 3) aNil)))
 (sSeq (sIf (mTest (mOp2 isD (mVar 4) (mC .non)))
 sNot
 sNil)
 (sClr [2, 3, 4] (sExpr (mBM isL lAppend (mVar 1) (aCons (mVar 4) aNil))))))))
 (sRet (mVar 1)))))
noncomputable def f_log_read : MFn := fnB 5 b_log_read
/-- 0 deed, 1 part -/
noncomputable def b_deed_shown : MSt :=
 (sRet (mBM isStr joinD (mC (.str " ")) (aCons (mLcV (miT (mVar 0)) (.nm 1) tYesM (mCB cStrS (aCons (mVar 1) aNil)) [1]) aNil)))
noncomputable def f_deed_shown : MFn := fnB 2 b_deed_shown
/-- 0 row, 1 words, 2 some, 3 serial -/
noncomputable def b_row_shown : MSt :=
 (sSeq (sIf (mTest (mOp2 eqR (mOp2 getI (mVar 0) (mC (.int 0))) (mC (.str "deed"))))
 (sRet (mOp2 (addD false) (mOp2 (addD false) (mCall 1 f_deed_shown (aCons (mOp2 getI (mVar 0) (mC (.int 1))) aNil)) (mC (.str " -> "))) (mOp2 getI (mVar 0) (mC (.int 2)))))
 sNil)
 (sSeq (sScp (sSeq (sSet 1 (mLst true (aCons (mOp2 getI (mVar 0) (mC (.int 0))) aNil)))
 (sClr [2] (sFor (miT (mSl' false (mVar 0) (ptSome (mC (.int 1))) ptNone)) (.nm 2)
 (sSeq (sIf (mTest (mOp2 eqR (mOp2 getI (mVar 0) (mC (.int 0))) (mC (.str "turn"))))
 (sExpr (mBM isL lAppend (mVar 1) (aCons (mC (.str "|")) aNil)))
 sNil)
 (sClr [2] (sExpr (mBM isL lExtend (mVar 1) (aCons (mLcV (miL (mVar 2)) (.nm 3) tYesM (mCB cStrS (aCons (mVar 3) aNil)) [3]) aNil)))))))))
 (sRet (mBM isStr joinD (mC (.str " ")) (aCons (mVar 1) aNil)))))
noncomputable def f_row_shown : MFn := fnB 4 b_row_shown
/-- 0 log, 1 row -/
noncomputable def b_log_shown : MSt :=
 (sRet (mBM isStr joinD (mC (.str "\n")) (aCons (mLcV (miL (mVar 0)) (.nm 1) tYesM (mCall 1 f_row_shown (aCons (mVar 1) aNil)) [1]) aNil)))
noncomputable def f_log_shown : MFn := fnB 2 b_log_shown
/-- 0 _law_script, 1 _law_free, 2 _law_log, 3 _law_text, 4 _law_handed, 5 _law_told, 6 _law_found, 7 _law_row_here, 8 _law_some, 9 _law_cell, 10 _law_part -/
noncomputable def b_law : MSt :=
 (sSeq (sSet 1 (mOp2 eqR (mOp2 (intOp modI) (mCall 2 f_law_cell_at (aCons (mVar 0) (aCons (mC (.int 0)) aNil))) (mC (.int 2))) (mC (.int 0))))
 (sSeq (sSet 2 (mLcV (miL (mSl' false (mVar 0) (ptSome (mC (.int 2))) (ptSome (mC (.int 63))))) (.nm 9) tYesM (mCall 2 f_law_log_row (aCons (mVar 9) (aCons (mVar 1) aNil))) [9]))
 (sSeq (sSet 3 (mBM isStr joinD (mC (.str "\n")) (aCons (mLcV (miL (mVar 2)) (.nm 7) tYesM (mCall 1 f_law_log_text (aCons (mVar 7) aNil)) [7]) aNil)))
 (sSeq (sSet 4 (mLcV (miL (mVar 2)) (.nm 7) tYesM (mCB cTuple (aCons (mLcV (miT (mVar 7)) (.nm 10) tYesM (mIfE (mTest (mIsi "list" (mVar 10))) (mCB (cListU false) (aCons (mVar 10) aNil)) (mVar 10)) [10]) aNil)) [7]))
 (sSeq (sSet 5 (mCall 1 f_log_shown (aCons (mVar 4) aNil)))
 (sSeq (sIf (tOr' (tNot' (mTest (mIsi "str" (mVar 5)))) (tOr' (mTest (mOp2 neR (mVar 5) (mVar 3))) (mTest (mOp2 neR (mVar 4) (mVar 2)))))
 (sRet (mC (.bl false)))
 sNil)
 (sSeq (sSet 6 (mCall 1 f_log_read (aCons (mVar 3) aNil)))
 (sSeq (sIf (tOr' (tNot' (mTest (mIsi "list" (mVar 6)))) (tOr' (mTest (mOp2 neR (mVar 6) (mVar 2))) (tNot' (mTest (mCall 1 f_law_form (aCons (mVar 6) aNil))))))
 (sRet (mC (.bl false)))
 sNil)
 (sSeq (sClr [7, 8] (sFor (miL (mVar 6)) (.nm 7)
 (sClr [7, 8] (sClr [8] (sFor (miT (mSl' false (mVar 7) (ptSome (mC (.int 1))) ptNone)) (.nm 8)
 (sClr [8] (sIf (mTest (mIsi "list" (mVar 8)))
 (sExpr (mBM isL lAppend (mVar 8) (aCons (mC (.str "more")) aNil)))
 sNil)))))))
 (sSeq (sExpr (mBM isL lAppend (mVar 6) (aCons (mC (.str "more")) aNil)))
 (sSeq (sIf (tOr' (mTest (mOp2 neR (mEx false (mCall 1 f_log_read (aCons (mC (.str "")) aNil))) (mLst false aNil))) (tOr' (mTest (mOp2 neR (mCall 1 f_log_shown (aCons (mLst false aNil) aNil)) (mC (.str "")))) (mTest (mOp2 neR (mEx false (mCall 1 f_log_read (aCons (mC (.str "begin")) aNil))) (mLst false (aCons (mTup (aCons (mC (.str "begin")) aNil)) aNil))))))
 (sRet (mC (.bl false)))
 sNil)
 (sRet (mAnd (mOp2 eqR (mEx false (mCall 1 f_log_read (aCons (mVar 3) aNil))) (mVar 2)) (mOp2 eqR (mCall 1 f_log_shown (aCons (mVar 4) aNil)) (mVar 3)))))))))))))))
noncomputable def f_law : MFn := fnB 11 b_law

end MP

set_option Elab.async false
set_option linter.all false
set_option maxRecDepth 100000
set_option maxHeartbeats 4000000
namespace MP
open PySem L2
/-! ### the built-in names that the text leaves alone -/
structure Blt (mg : Str → Option Value) : Prop where
  abs : mg "abs" = none
  any : mg "any" = none
  bool : mg "bool" = none
  enumerate : mg "enumerate" = none
  int : mg "int" = none
  isinstance : mg "isinstance" = none
  len : mg "len" = none
  list : mg "list" = none
  range : mg "range" = none
  str : mg "str" = none
  tuple : mg "tuple" = none
  zip : mg "zip" = none
section
variable {P : Program} {w : World} {K : PySem.W.Frag} {mg : Str → Option Value} {base : Heap} {G : Ga}
theorem sc_law_cell_at : FnScope ["_law_script", "_law_k"] ["_law_script", "_law_k"] (defScope st_law_cell_at) := ⟨rfl, rfl, rfl, by decide +kernel, rfl, by decide +kernel, by decide +kernel⟩
theorem ok_law_cell_at {f : Addr} {fd : FuncData} (F : Fun K "_law_cell_at" "_law_cell_at" st_law_cell_at f fd) (g : Gok K G) (B : Blt mg)  : FnOk P w K mg base (L2.CX P w) 1 f fd ["_law_script", "_law_k"] (SpM K G f_law_cell_at 2) :=
  mk_fn F sc_law_cell_at fun cdv A outer s H E d =>
 (ss_cons (s_if (t_cmp op_lt (s_cmpI (p := ltI)) (d_var 1) (d_callB cr_lenU s_len B.len (a_cons (d_var 0) a_nil)) (nomark _))
 (ss_one (s_ret (d_ix (d_var 0) (d_var 1))))
 ss_nil)
 (ss_one (s_ret d_int)))
theorem sc_law_whole : FnScope ["_law_found"] ["_law_found"] (defScope st_law_whole) := ⟨rfl, rfl, rfl, by decide +kernel, rfl, by decide +kernel, by decide +kernel⟩
theorem ok_law_whole {f : Addr} {fd : FuncData} (F : Fun K "_law_whole" "_law_whole" st_law_whole f fd) (g : Gok K G) (B : Blt mg)  : FnOk P w K mg base (L2.CX P w) 1 f fd ["_law_found"] (SpM K G f_law_whole 1) :=
  mk_fn F sc_law_whole fun cdv A outer s H E d =>
 (ss_one (s_ret (d_and (d_isi "int" B.isinstance B.int (d_var 0)) (d_one (d_not (d_isi "bool" B.isinstance B.bool (d_var 0)))))))
theorem sc_law_form : FnScope ["_law_found", "_law_row_here", "_law_some", "_law_number"] ["_law_found"] (defScope st_law_form) := ⟨rfl, rfl, rfl, by decide +kernel, rfl, by decide +kernel, by decide +kernel⟩
theorem ok_law_form {f : Addr} {fd : FuncData} (F : Fun K "_law_form" "_law_form" st_law_form f fd) (g : Gok K G) (B : Blt mg) (F_law_whole : FnG P w K mg base G 1 "_law_whole" f_law_whole 1) : FnOk P w K mg base (L2.CX P w) 2 f fd ["_law_found"] (SpM K G f_law_form 1) :=
  mk_fn F sc_law_form fun cdv A outer s H E d =>
 (ss_cons (s_clr [1, 2] (s_for d (i_list (d_var 0)) (g_nm d)
 (ss_cons (s_if (t_not (t_val (d_isi "tuple" B.isinstance B.tuple (d_var 1))))
 (ss_one (s_ret d_bl))
 ss_nil)
 (ss_one (s_clr [1, 2] (s_clr [2] (s_for d (i_tup (d_sl (d_var 1) (p_some d_int) p_none)) (g_nm d)
 (ss_one (s_clr [2] (s_if (t_cmp op_in_seq s_inQ (d_ix (d_var 1) d_int) (d_lst (a_cons d_str (a_cons d_str a_nil))) (by rfl))
 (ss_one (s_if (PW.pt (t_or (t_not (t_val (d_isi "list" B.isinstance B.list (d_var 2)))) (t_or1 (t_cmp (op_neU d) s_ne (d_lcv (d_lc (own := [("_law_number", 3)]) (t := (.nm 3)) d (i_list (d_var 2)) (by rfl) (fun _ _ _ _ _ d => (g_nm d)) (fun _ _ _ _ _ d => (ts_one (t_not (t_val (d_call F_law_whole d (a_cons (d_var 3) a_nil)))))) (fun _ _ _ _ _ d => (d_var 3)))) (d_lst a_nil) (nomark _)))))
 (ss_one (s_ret d_bl))
 ss_nil))
 ss_nil))))))))))
 (ss_one (s_ret d_bl)))
theorem sc_law_drawn : FnScope ["_law_cell", "_law_sizes", "_law_free", "_law_number", "_law_other", "_law_found", "_law_size"] ["_law_cell", "_law_sizes", "_law_free"] (defScope st_law_drawn) := ⟨rfl, rfl, rfl, by decide +kernel, rfl, by decide +kernel, by decide +kernel⟩
theorem ok_law_drawn {f : Addr} {fd : FuncData} (F : Fun K "_law_drawn" "_law_drawn" st_law_drawn f fd) (g : Gok K G) (B : Blt mg)  : FnOk P w K mg base (L2.CX P w) 1 f fd ["_law_cell", "_law_sizes", "_law_free"] (SpM K G f_law_drawn 3) :=
  mk_fn F sc_law_drawn fun cdv A outer s H E d =>
 (ss_cons (s_set d (d_callB call_abs s_abs B.abs (a_cons (d_var 0) a_nil)))
 (ss_cons (s_clr [4] (s_if (t_not (t_val (d_var 2)))
 (ss_cons (s_set d (d_bin op_mod s_mod (d_bin op_mulU s_mul (d_bin op_addU s_add (d_var 0) d_int) d_int) d_int))
 (ss_cons (s_set d (d_bin op_mulU s_mul (d_bin op_mulU s_mul (d_bin op_mulU s_mul (d_bin op_mulU s_mul (d_bin op_mulU s_mul (d_var 4) (d_var 4)) (d_var 4)) (d_var 4)) (d_var 4)) d_int))
 (ss_one (s_set d (d_bin op_addU s_add (d_bin op_mod s_mod (d_bin op_mulU s_mul (d_var 0) d_int) d_int) (d_bin op_mulU s_mul d_int (d_var 4)))))))
 ss_nil))
 (ss_blk 2 (bb_scp (bb_cons (s_set d (d_lst a_nil))
 (bb_one (s_clr [6] (s_for d (i_list (d_var 1)) (g_nm d)
 (ss_cons (s_expr (d_bm PySem.F.plainAttrs_list PySem.F.slot_list_append PySem.F.type_list_append mt_append s_append (fun _ _ _ _ _ em r h => tyL em r h) (d_var 5) (a_cons (d_bin op_mod s_mod (d_var 3) (d_var 6)) a_nil)))
 (ss_one (s_clr [6] (s_set d (d_bin op_fdivW s_fdiv (d_var 3) (d_var 6)))))))))))
 (ss_one (s_ret (d_bin op_addU s_add (d_var 5) (d_lst (a_cons (d_var 3) a_nil))))))))
theorem sc_law_deed_by : FnScope ["_law_cell", "_law_free", "_law_words", "_law_signs", "_law_which", "_law_one", "_law_two", "_law_three", "_law_at", "_law_few", "_law_far", "_law_rest", "_law_word", "_law_number"] ["_law_cell", "_law_free"] (defScope st_law_deed_by) := ⟨rfl, rfl, rfl, by decide +kernel, rfl, by decide +kernel, by decide +kernel⟩
theorem ok_law_deed_by {f : Addr} {fd : FuncData} (F : Fun K "_law_deed_by" "_law_deed_by" st_law_deed_by f fd) (g : Gok K G) (B : Blt mg) (F_law_drawn : FnG P w K mg base G 1 "_law_drawn" f_law_drawn 3) : FnOk P w K mg base (L2.CX P w) 2 f fd ["_law_cell", "_law_free"] (SpM K G f_law_deed_by 2) :=
  mk_fn F sc_law_deed_by fun cdv A outer s H E d =>
 (ss_blk 2 (bb_scp (bb_cons (s_set d (d_lst (a_cons d_str (a_cons d_str (a_cons d_str (a_cons d_str (a_cons d_str (a_cons d_str (a_cons d_str (a_cons d_str (a_cons d_str (a_cons d_str (a_cons d_str (a_cons d_str (a_cons d_str a_nil)))))))))))))))
 (bb_one (s_expr (d_bm PySem.F.plainAttrs_list PySem.F.slot_list_append PySem.F.type_list_append mt_append s_append (fun _ _ _ _ _ em r h => tyL em r h) (d_var 2) (a_cons d_str a_nil))))))
 (ss_cons (s_set d d_str)
 (ss_cons (s_asg (d_call F_law_drawn d (a_cons (d_var 0) (a_cons (d_lst (a_cons d_int (a_cons d_int (a_cons d_int (a_cons d_int (a_cons d_int (a_cons d_int (a_cons (d_bin op_pow s_pow d_int d_int) a_nil)))))))) (a_cons (d_var 1) a_nil)))) (g_tp d (gs_cons d (gs_cons d (gs_cons d (gs_cons d (gs_cons d (gs_cons d (gs_cons d (gs_cons d gs_nil))))))))))
 (ss_cons (s_set d (d_ix (d_var 2) (d_var 4)))
 (ss_cons (s_set d (d_alt (d_ix (d_var 3) (d_var 5)) (d_dget d (d_var 3) (d_var 5))))
 (ss_cons (s_set d (d_alt (d_ix (d_var 3) (d_var 6)) (d_dget d (d_var 3) (d_var 6))))
 (ss_cons (s_set d (d_ix (d_lst (a_cons (d_var 8) (a_cons (d_var 10) a_nil))) (d_callT call_int1 s_intc B.int (a_cons (d_cmp (op_eqU d) s_eq (d_var 9) d_int (nomark _)) a_nil))))
 (ss_cons (s_if (t_cmp (op_eqU d) s_eq (d_var 12) d_str (nomark _))
 (ss_one (s_ret (d_tup (a_cons (d_var 12) (a_cons (d_var 5) (a_cons (d_var 8) a_nil))))))
 ss_nil)
 (ss_cons (s_if (t_cmp op_in_seq s_inQ (d_var 12) (d_lst (a_cons d_str (a_cons d_str a_nil))) (by rfl))
 (ss_one (s_ret (d_tup (a_cons (d_var 12) (a_cons (d_var 5) (a_cons (d_var 13) a_nil))))))
 ss_nil)
 (ss_cons (s_if (t_cmp (op_eqU d) s_eq (d_var 12) d_str (nomark _))
 (ss_one (s_ret (d_tup (a_cons (d_var 12) (a_cons (d_var 5) (a_cons (d_var 13) (a_cons (d_var 6) a_nil)))))))
 ss_nil)
 (ss_cons (s_if (t_cmp (op_eqU d) s_eq (d_var 12) d_str (nomark _))
 (ss_one (s_ret (d_tup (a_cons (d_var 12) (a_cons (d_var 5) (a_cons (d_var 6) (a_cons (d_var 13) a_nil)))))))
 ss_nil)
 (ss_cons (s_if (t_cmp op_in_seq s_inQ (d_var 12) (d_lst (a_cons d_str (a_cons d_str a_nil))) (by rfl))
 (ss_one (s_ret (d_tup (a_cons (d_var 12) (a_cons (d_var 5) (a_cons (d_var 6) (a_cons (d_alt (d_ix (d_var 3) (d_var 7)) (d_dget d (d_var 3) (d_var 7))) a_nil)))))))
 ss_nil)
 (ss_cons (s_if (t_cmp op_in_seq s_inQ (d_var 12) (d_lst (a_cons d_str (a_cons d_str (a_cons d_str a_nil)))) (by rfl))
 (ss_one (s_ret (d_tup (a_cons (d_var 12) (a_cons (d_var 5) a_nil)))))
 ss_nil)
 (ss_one (s_ret (d_tup (a_cons (d_var 12) (a_cons (d_var 5) (a_cons (d_var 6) a_nil)))))))))))))))))))
theorem sc_law_numbers : FnScope ["_law_number", "_law_many", "_law_found", "_law_k"] ["_law_number", "_law_many"] (defScope st_law_numbers) := ⟨rfl, rfl, rfl, by decide +kernel, rfl, by decide +kernel, by decide +kernel⟩
theorem ok_law_numbers {f : Addr} {fd : FuncData} (F : Fun K "_law_numbers" "_law_numbers" st_law_numbers f fd) (g : Gok K G) (B : Blt mg)  : FnOk P w K mg base (L2.CX P w) 1 f fd ["_law_number", "_law_many"] (SpM K G f_law_numbers 2) :=
  mk_fn F sc_law_numbers fun cdv A outer s H E d =>
 (ss_blk 2 (bb_scp (bb_cons (s_set d (d_lst a_nil))
 (bb_one (s_clr [3] (s_for d (i_rng1 B.range (a_cons (d_var 1) a_nil)) (g_nm d)
 (ss_cons (s_expr (d_bm PySem.F.plainAttrs_list PySem.F.slot_list_append PySem.F.type_list_append mt_append s_append (fun _ _ _ _ _ em r h => tyL em r h) (d_var 2) (a_cons (d_ix (d_lst (a_cons (d_bin op_mod s_mod (d_var 0) d_int) (a_cons (d_bin op_mod s_mod (d_var 0) (d_bin op_pow s_pow d_int d_int)) a_nil))) (d_callT call_int1 s_intc B.int (a_cons (d_cmp (op_eqU d) s_eq (d_bin op_mod s_mod (d_bin op_fdivW s_fdiv (d_var 0) d_int) d_int) d_int (nomark _)) a_nil))) a_nil)))
 (ss_one (s_clr [3] (s_set d (d_bin op_fdivW s_fdiv (d_var 0) d_int))))))))))
 (ss_one (s_ret (d_tup (a_cons (d_var 2) (a_cons (d_var 0) a_nil))))))
theorem sc_law_log_row : FnScope ["_law_cell", "_law_free", "_law_way", "_law_many", "_law_ans", "_law_rest", "_law_answers", "_law_parts", "_law_k", "_law_some"] ["_law_cell", "_law_free"] (defScope st_law_log_row) := ⟨rfl, rfl, rfl, by decide +kernel, rfl, by decide +kernel, by decide +kernel⟩
theorem ok_law_log_row {f : Addr} {fd : FuncData} (F : Fun K "_law_log_row" "_law_log_row" st_law_log_row f fd) (g : Gok K G) (B : Blt mg) (F_law_drawn : FnG P w K mg base G 1 "_law_drawn" f_law_drawn 3) (F_law_deed_by : FnG P w K mg base G 2 "_law_deed_by" f_law_deed_by 2) (F_law_numbers : FnG P w K mg base G 1 "_law_numbers" f_law_numbers 2) : FnOk P w K mg base (L2.CX P w) 3 f fd ["_law_cell", "_law_free"] (SpM K G f_law_log_row 2) :=
  mk_fn F sc_law_log_row fun cdv A outer s H E d =>
 (ss_cons (s_asg (d_call F_law_drawn d (a_cons (d_var 0) (a_cons (d_lst (a_cons d_int (a_cons d_int (a_cons d_int a_nil)))) (a_cons (d_var 1) a_nil)))) (g_tp d (gs_cons d (gs_cons d (gs_cons d (gs_cons d gs_nil))))))
 (ss_cons (s_clr [6] (s_if (t_cmp op_lt (s_cmpI (p := ltI)) (d_var 2) d_int (nomark _))
 (ss_cons (s_set d (d_lst (a_cons d_str (a_cons d_str (a_cons d_str (a_cons d_str (a_cons d_str (a_cons d_str (a_cons d_str (a_cons d_str (a_cons d_str (a_cons d_str a_nil))))))))))))
 (ss_cons (s_set d (d_bin op_addU s_add (d_var 6) (d_lst (a_cons (d_callT call_str_int s_strc B.str (a_cons (d_bin op_mod s_mod (d_var 5) d_int) a_nil)) (a_cons (d_callT call_str_int s_strc B.str (a_cons (d_bin op_mod s_mod (d_var 5) (d_bin op_pow s_pow d_int d_int)) a_nil)) a_nil)))))
 (ss_one (s_ret (d_tup (a_cons d_str (a_cons (d_call F_law_deed_by d (a_cons (d_bin op_fdivW s_fdiv (d_var 5) d_int) (a_cons d_bl a_nil))) (a_cons (d_ix (d_var 6) (d_var 4)) a_nil))))))))
 ss_nil))
 (ss_cons (s_if (t_cmp op_lt (s_cmpI (p := ltI)) (d_var 2) d_int (nomark _))
 (ss_one (s_ret (d_tup (a_cons d_str (a_cons (d_ix (d_call F_law_numbers d (a_cons (d_var 5) (a_cons (d_var 3) a_nil))) d_int) a_nil)))))
 ss_nil)
 (ss_cons (s_if (t_cmp (op_eqU d) s_eq (d_var 2) d_int (nomark _))
 (ss_one (s_ret (d_tup (a_cons (d_ix (d_lst (a_cons d_str (a_cons d_str (a_cons d_str a_nil)))) (d_bin op_mod s_mod (d_var 3) d_int)) a_nil))))
 ss_nil)
 (ss_blk 2 (bb_scp (bb_cons (s_set d (d_lst a_nil))
 (bb_one (s_clr [8, 9, 5] (s_for d (i_rng1 B.range (a_cons d_int a_nil)) (g_nm d)
 (ss_cons (s_asg (d_call F_law_numbers d (a_cons (d_bin op_fdivW s_fdiv (d_var 5) d_int) (a_cons (d_ix (d_lst (a_cons (d_bin op_mod s_mod (d_var 5) d_int) (a_cons d_int a_nil))) (d_bin op_mod s_mod (d_var 2) d_int)) a_nil))) (g_tp d (gs_cons d (gs_cons d gs_nil))))
 (ss_one (s_clr [8, 9] (s_expr (d_bm PySem.F.plainAttrs_list PySem.F.slot_list_append PySem.F.type_list_append mt_append s_append (fun _ _ _ _ _ em r h => tyL em r h) (d_var 7) (a_cons (d_var 9) a_nil)))))))))))
 (ss_one (s_ret (d_bin op_catA s_catT (d_tup (a_cons d_str a_nil)) (d_callT call_tuple_of s_tuple B.tuple (a_cons (d_var 7) a_nil))))))))))
theorem sc_law_row : FnScope ["_law_deed", "_law_found", "_law_part"] ["_law_deed"] (defScope st_law_row) := ⟨rfl, rfl, rfl, by decide +kernel, rfl, by decide +kernel, by decide +kernel⟩
theorem ok_law_row {f : Addr} {fd : FuncData} (F : Fun K "_law_row" "_law_row" st_law_row f fd) (g : Gok K G) (B : Blt mg)  : FnOk P w K mg base (L2.CX P w) 1 f fd ["_law_deed"] (SpM K G f_law_row 1) :=
  mk_fn F sc_law_row fun cdv A outer s H E d =>
 (ss_cons (s_set d (d_ix (d_var 0) d_int))
 (ss_cons (s_clr [2] (s_for d (i_tup (d_sl (d_var 0) (p_some d_int) p_none)) (g_nm d)
 (ss_one (s_clr [2] (s_set d (d_bin op_addU s_add (d_bin op_addU s_add (d_var 1) d_str) (d_callT cr_strS s_strS B.str (a_cons (d_var 2) a_nil))))))))
 (ss_one (s_ret (d_var 1)))))
theorem sc_law_log_text : FnScope ["_law_row_here", "_law_text", "_law_some", "_law_serial"] ["_law_row_here"] (defScope st_law_log_text) := ⟨rfl, rfl, rfl, by decide +kernel, rfl, by decide +kernel, by decide +kernel⟩
theorem ok_law_log_text {f : Addr} {fd : FuncData} (F : Fun K "_law_log_text" "_law_log_text" st_law_log_text f fd) (g : Gok K G) (B : Blt mg) (F_law_row : FnG P w K mg base G 1 "_law_row" f_law_row 1) : FnOk P w K mg base (L2.CX P w) 2 f fd ["_law_row_here"] (SpM K G f_law_log_text 1) :=
  mk_fn F sc_law_log_text fun cdv A outer s H E d =>
 (ss_cons (s_if (t_cmp (op_eqU d) s_eq (d_ix (d_var 0) d_int) d_str (nomark _))
 (ss_one (s_ret (d_bin op_addU s_add (d_bin op_addU s_add (d_call F_law_row d (a_cons (d_ix (d_var 0) d_int) a_nil)) d_str) (d_ix (d_var 0) d_int))))
 ss_nil)
 (ss_cons (s_set d (d_ix (d_var 0) d_int))
 (ss_cons (s_clr [2, 3] (s_for d (i_tup (d_sl (d_var 0) (p_some d_int) p_none)) (g_nm d)
 (ss_cons (s_if (t_cmp (op_eqU d) s_eq (d_ix (d_var 0) d_int) d_str (nomark _))
 (ss_one (s_set d (d_bin op_addU s_add (d_var 1) d_str)))
 ss_nil)
 (ss_one (s_clr [2, 3] (s_clr [3] (s_alt (s_for d (i_list (d_var 2)) (g_nm d)
 (ss_one (s_clr [3] (s_set d (d_bin op_addU s_add (d_bin op_addU s_add (d_var 1) d_str) (d_callT cr_strS s_strS B.str (a_cons (d_var 3) a_nil))))))) (s_lock (mVar 2) (s_for d (i_keys (d_var 2)) (g_nm d)
 (ss_one (s_clr [3] (s_set d (d_bin op_addU s_add (d_bin op_addU s_add (d_var 1) d_str) (d_callT cr_strS s_strS B.str (a_cons (d_var 3) a_nil)))))))))))))))
 (ss_one (s_ret (d_var 1))))))
theorem sc_number_told : FnScope ["text", "sign"] ["text"] (defScope st_number_told) := ⟨rfl, rfl, rfl, by decide +kernel, rfl, by decide +kernel, by decide +kernel⟩
theorem ok_number_told {f : Addr} {fd : FuncData} (F : Fun K "number_told" "number_told" st_number_told f fd) (g : Gok K G) (B : Blt mg) (C_FIGURES : GlC K G mg "FIGURES" c_FIGURES) : FnOk P w K mg base (L2.CX P w) 1 f fd ["text"] (SpM K G f_number_told 1) :=
  mk_fn F sc_number_told fun cdv A outer s H E d =>
 (ss_cons (s_if (PW.pt (t_or (t_not (t_chn op_le op_le (s_cmpI (p := leI)) (s_cmpI (p := leI)) d_int (d_callB cr_lenU s_len B.len (a_cons (d_var 0) a_nil)) d_int)) (t_or1 (PW.pt (t_and (t_cmp (op_eqU d) s_eq (d_ix (d_var 0) d_int) d_str (nomark _)) (t_and1 (t_cmp (op_neU d) s_ne (d_var 0) d_str (nomark _))))))))
 (ss_one (s_ret d_non))
 ss_nil)
 (ss_cons (s_clr [1] (s_for d (i_str (d_var 0)) (g_nm d)
 (ss_one (s_clr [1] (s_if (t_cmp op_notInS (s_inS1 (neg := true)) (d_var 1) (d_glob C_FIGURES) (by rfl))
 (ss_one (s_ret d_non))
 ss_nil)))))
 (ss_one (s_ret (d_callT call_intT s_intT B.int (a_cons (d_var 0) a_nil))))))
theorem sc_part_told : FnScope ["form", "text", "number"] ["form", "text"] (defScope st_part_told) := ⟨rfl, rfl, rfl, by decide +kernel, rfl, by decide +kernel, by decide +kernel⟩
theorem ok_part_told {f : Addr} {fd : FuncData} (F : Fun K "part_told" "part_told" st_part_told f fd) (g : Gok K G) (B : Blt mg) (C_LETTERS : GlC K G mg "LETTERS" c_LETTERS) (F_number_told : FnG P w K mg base G 1 "number_told" f_number_told 1) (C_MOST_FIELDS : GlC K G mg "MOST_FIELDS" c_MOST_FIELDS) : FnOk P w K mg base (L2.CX P w) 2 f fd ["form", "text"] (SpM K G f_part_told 2) :=
  mk_fn F sc_part_told fun cdv A outer s H E d =>
 (ss_cons (s_if (t_cmp (op_eqU d) s_eq (d_var 0) d_str (nomark _))
 (ss_cons (s_if (PW.pt (t_and (t_cmp (op_eqU d) s_eq (d_callB cr_lenU s_len B.len (a_cons (d_var 1) a_nil)) d_int (nomark _)) (t_and1 (t_cmp op_inS (s_inS1 (neg := false)) (d_var 1) (d_glob C_LETTERS) (by rfl)))))
 (ss_one (s_ret (d_var 1)))
 ss_nil)
 (ss_one (s_ret d_non)))
 ss_nil)
 (ss_cons (s_set d (d_call F_number_told d (a_cons (d_var 1) a_nil)))
 (ss_cons (s_if (PW.pt (t_and (t_cmp op_notN s_isNot (d_var 2) d_non (nomark _)) (t_and (t_cmp (op_eqU d) s_eq (d_var 0) d_str (nomark _)) (t_and1 (t_cmp op_gt (s_cmpI (p := gtI)) (d_var 2) (d_glob C_MOST_FIELDS) (nomark _))))))
 (ss_one (s_ret d_non))
 ss_nil)
 (ss_one (s_ret (d_var 2))))))
theorem sc_deed_told : FnScope ["text", "words", "form", "parts", "sign", "word", "part"] ["text"] (defScope st_deed_told) := ⟨rfl, rfl, rfl, by decide +kernel, rfl, by decide +kernel, by decide +kernel⟩
theorem ok_deed_told {f : Addr} {fd : FuncData} (F : Fun K "deed_told" "deed_told" st_deed_told f fd) (g : Gok K G) (B : Blt mg) (Z_FORMS : DcS P w K mg "FORMS" c_FORMS) (F_part_told : FnG P w K mg base G 2 "part_told" f_part_told 2) : FnOk P w K mg base (L2.CX P w) 3 f fd ["text"] (SpM K G f_deed_told 1) :=
  mk_fn F sc_deed_told fun cdv A outer s H E d =>
 (ss_cons (s_set d (d_bm PySem.F.plainAttrs_str PySem.F.slot_str_split PySem.F.type_str_split mt_split s_split (fun _ _ _ _ _ em r h => tyStr em r h) (d_var 0) (a_cons d_str a_nil)))
 (ss_cons (s_set d (d_kgetS Z_FORMS (d_ix (d_var 1) d_int) d_str))
 (ss_cons (s_if (PW.pt (t_or (t_cmp (op_eqU d) s_eq (d_var 2) d_str (nomark _)) (t_or1 (t_cmp (op_neU d) s_ne (d_callB cr_lenU s_len B.len (a_cons (d_var 1) a_nil)) (d_bin op_addU s_add (d_callB cr_lenU s_len B.len (a_cons (d_var 2) a_nil)) d_int) (nomark _)))))
 (ss_one (s_ret d_non))
 ss_nil)
 (ss_cons (s_setLcX (i := 3) (own := [("sign", 4), ("word", 5)]) (t := (.tp [4, 5])) d (i_zipTL B.zip (a_cons (d_var 2) (a_cons (d_sl (d_var 1) (p_some d_int) p_none) a_nil))) (by rfl) (sw_true rfl rfl rfl (by rfl)) (fun _ _ _ _ _ d => (g_tp d (gs_cons d (gs_cons d gs_nil)))) (fun _ _ _ _ _ d => ts_nil) (fun _ _ _ _ _ d => (d_call F_part_told d (a_cons (d_var 4) (a_cons (d_var 5) a_nil)))))
 (ss_cons (s_if (t_val (d_callB (cr_any d.calm) s_any B.any (a_cons (d_lcv (d_lc (own := [("part", 6)]) (t := (.nm 6)) d (i_list (d_var 3)) (by rfl) (fun _ _ _ _ _ d => (g_nm d)) (fun _ _ _ _ _ d => ts_nil) (fun _ _ _ _ _ d => (d_cmp op_isN s_is (d_var 6) d_non (nomark _))))) a_nil)))
 (ss_one (s_ret d_non))
 ss_nil)
 (ss_one (s_ret (d_callT call_tuple_of s_tuple B.tuple (a_cons (d_bin op_addU s_add (d_sl (d_var 1) p_none (p_some d_int)) (d_var 3)) a_nil)))))))))
theorem sc_is_answer : FnScope ["text"] ["text"] (defScope st_is_answer) := ⟨rfl, rfl, rfl, by decide +kernel, rfl, by decide +kernel, by decide +kernel⟩
theorem ok_is_answer {f : Addr} {fd : FuncData} (F : Fun K "is_answer" "is_answer" st_is_answer f fd) (g : Gok K G) (B : Blt mg) (T_ANSWERS : GlT K mg "ANSWERS" c_ANSWERS) (F_number_told : FnG P w K mg base G 1 "number_told" f_number_told 1) : FnOk P w K mg base (L2.CX P w) 2 f fd ["text"] (SpM K G f_is_answer 1) :=
  mk_fn F sc_is_answer fun cdv A outer s H E d =>
 (ss_one (s_ret (d_or (d_cmp op_in_seq s_inQ (d_var 0) (d_glob T_ANSWERS.c) (by rfl)) (d_one (d_cmp op_notN s_isNot (d_call F_number_told d (a_cons (d_var 0) a_nil)) d_non (nomark _))))))
theorem sc_deed_row_told : FnScope ["start", "answer", "deed"] ["start", "answer"] (defScope st_deed_row_told) := ⟨rfl, rfl, rfl, by decide +kernel, rfl, by decide +kernel, by decide +kernel⟩
theorem ok_deed_row_told {f : Addr} {fd : FuncData} (F : Fun K "deed_row_told" "deed_row_told" st_deed_row_told f fd) (g : Gok K G) (B : Blt mg) (F_deed_told : FnG P w K mg base G 3 "deed_told" f_deed_told 1) (F_is_answer : FnG P w K mg base G 2 "is_answer" f_is_answer 1) : FnOk P w K mg base (L2.CX P w) 4 f fd ["start", "answer"] (SpM K G f_deed_row_told 2) :=
  mk_fn F sc_deed_row_told fun cdv A outer s H E d =>
 (ss_cons (s_set d (d_call F_deed_told d (a_cons (d_var 0) a_nil)))
 (ss_cons (s_if (PW.pt (t_or (t_cmp op_isN s_is (d_var 2) d_non (nomark _)) (t_or1 (t_not (t_val (d_call F_is_answer d (a_cons (d_var 1) a_nil)))))))
 (ss_one (s_ret d_non))
 ss_nil)
 (ss_one (s_ret (d_tup (a_cons d_str (a_cons (d_var 2) (a_cons (d_var 1) a_nil))))))))
theorem sc_freed_told : FnScope ["words", "some", "word", "number"] ["words"] (defScope st_freed_told) := ⟨rfl, rfl, rfl, by decide +kernel, rfl, by decide +kernel, by decide +kernel⟩
theorem ok_freed_told {f : Addr} {fd : FuncData} (F : Fun K "freed_told" "freed_told" st_freed_told f fd) (g : Gok K G) (B : Blt mg) (F_number_told : FnG P w K mg base G 1 "number_told" f_number_told 1) : FnOk P w K mg base (L2.CX P w) 2 f fd ["words"] (SpM K G f_freed_told 1) :=
  mk_fn F sc_freed_told fun cdv A outer s H E d =>
 (ss_cons (s_setLc (i := 1) (own := [("word", 2)]) (t := (.nm 2)) d (i_list (d_var 0)) (by rfl) (sw_true rfl rfl rfl (by rfl)) (fun _ _ _ _ _ d => (g_nm d)) (fun _ _ _ _ _ d => ts_nil) (fun _ _ _ _ _ d => (d_call F_number_told d (a_cons (d_var 2) a_nil))))
 (ss_cons (s_if (t_val (d_callB (cr_any d.calm) s_any B.any (a_cons (d_lcv (d_lc (own := [("number", 3)]) (t := (.nm 3)) d (i_list (d_var 1)) (by rfl) (fun _ _ _ _ _ d => (g_nm d)) (fun _ _ _ _ _ d => ts_nil) (fun _ _ _ _ _ d => (d_cmp op_isN s_is (d_var 3) d_non (nomark _))))) a_nil)))
 (ss_one (s_ret d_non))
 ss_nil)
 (ss_one (s_ret (d_tup (a_cons d_str (a_cons (d_var 1) a_nil)))))))
theorem sc_turn_told : FnScope ["words", "parts", "word"] ["words"] (defScope st_turn_told) := ⟨rfl, rfl, rfl, by decide +kernel, rfl, by decide +kernel, by decide +kernel⟩
theorem ok_turn_told {f : Addr} {fd : FuncData} (F : Fun K "turn_told" "turn_told" st_turn_told f fd) (g : Gok K G) (B : Blt mg) (F_number_told : FnG P w K mg base G 1 "number_told" f_number_told 1) (C_LISTS : GlC K G mg "LISTS" c_LISTS) : FnOk P w K mg base (L2.CX P w) 2 f fd ["words"] (SpM K G f_turn_told 1) :=
  mk_fn F sc_turn_told fun cdv A outer s H E d =>
 (ss_cons (s_set d (d_lst a_nil))
 (ss_cons (s_clr [2] (s_for d (i_list (d_var 0)) (g_nm d)
 (ss_one (s_clr [2] (s_if (t_cmp (op_eqU d) s_eq (d_var 2) d_str (nomark _))
 (ss_one (s_expr (d_bm PySem.F.plainAttrs_list PySem.F.slot_list_append PySem.F.type_list_append mt_append s_append (fun _ _ _ _ _ em r h => tyL em r h) (d_var 1) (a_cons (d_lst a_nil) a_nil))))
 (ss_one (s_if (PW.pt (t_or (t_cmp (op_eqU d) s_eq (d_var 1) (d_lst a_nil) (nomark _)) (t_or1 (t_cmp op_isN s_is (d_call F_number_told d (a_cons (d_var 2) a_nil)) d_non (nomark _)))))
 (ss_one (s_ret d_non))
 (ss_one (s_expr (d_bm PySem.F.plainAttrs_list PySem.F.slot_list_append PySem.F.type_list_append mt_append s_append (fun _ _ _ _ _ em r h => tyL em r h) (d_ix (d_var 1) (d_neg d_int)) (a_cons (d_call F_number_told d (a_cons (d_var 2) a_nil)) a_nil)))))))))))
 (ss_cons (s_if (t_cmp (op_neU d) s_ne (d_callB cr_lenU s_len B.len (a_cons (d_var 1) a_nil)) (d_glob C_LISTS) (nomark _))
 (ss_one (s_ret d_non))
 ss_nil)
 (ss_one (s_ret (d_bin op_catA s_catT (d_tup (a_cons d_str a_nil)) (d_callT call_tuple_of s_tuple B.tuple (a_cons (d_var 1) a_nil))))))))
theorem sc_row_told : FnScope ["row", "start", "arrow", "answer", "words"] ["row"] (defScope st_row_told) := ⟨rfl, rfl, rfl, by decide +kernel, rfl, by decide +kernel, by decide +kernel⟩
theorem ok_row_told {f : Addr} {fd : FuncData} (F : Fun K "row_told" "row_told" st_row_told f fd) (g : Gok K G) (B : Blt mg) (F_deed_row_told : FnG P w K mg base G 4 "deed_row_told" f_deed_row_told 2) (F_turn_told : FnG P w K mg base G 2 "turn_told" f_turn_told 1) (F_freed_told : FnG P w K mg base G 2 "freed_told" f_freed_told 1) : FnOk P w K mg base (L2.CX P w) 5 f fd ["row"] (SpM K G f_row_told 1) :=
  mk_fn F sc_row_told fun cdv A outer s H E d =>
 (ss_cons (s_asg (d_bm PySem.F.plainAttrs_str PySem.F.slot_str_partition PySem.F.type_str_partition mt_partition s_part (fun _ _ _ _ _ em r h => tyStr em r h) (d_var 0) (a_cons d_str a_nil)) (g_tp d (gs_cons d (gs_cons d (gs_cons d gs_nil)))))
 (ss_cons (s_if (t_cmp (op_neU d) s_ne (d_var 2) d_str (nomark _))
 (ss_one (s_ret (d_call F_deed_row_told d (a_cons (d_var 1) (a_cons (d_var 3) a_nil)))))
 ss_nil)
 (ss_cons (s_if (t_cmp op_in_seq s_inQ (d_var 0) (d_lst (a_cons d_str (a_cons d_str (a_cons d_str a_nil)))) (by rfl))
 (ss_one (s_ret (d_tup (a_cons (d_var 0) a_nil))))
 ss_nil)
 (ss_cons (s_set d (d_bm PySem.F.plainAttrs_str PySem.F.slot_str_split PySem.F.type_str_split mt_split s_split (fun _ _ _ _ _ em r h => tyStr em r h) (d_var 0) (a_cons d_str a_nil)))
 (ss_cons (s_if (t_cmp (op_eqU d) s_eq (d_ix (d_var 4) d_int) d_str (nomark _))
 (ss_one (s_ret (d_call F_turn_told d (a_cons (d_sl (d_var 4) (p_some d_int) p_none) a_nil))))
 ss_nil)
 (ss_cons (s_if (t_cmp (op_eqU d) s_eq (d_ix (d_var 4) d_int) d_str (nomark _))
 (ss_one (s_ret (d_call F_freed_told d (a_cons (d_sl (d_var 4) (p_some d_int) p_none) a_nil))))
 ss_nil)
 (ss_one (s_ret d_non))))))))
theorem sc_log_read : FnScope ["text", "found", "number", "part", "row"] ["text"] (defScope st_log_read) := ⟨rfl, rfl, rfl, by decide +kernel, rfl, by decide +kernel, by decide +kernel⟩
theorem ok_log_read {f : Addr} {fd : FuncData} (F : Fun K "log_read" "log_read" st_log_read f fd) (g : Gok K G) (B : Blt mg) (F_row_told : FnG P w K mg base G 5 "row_told" f_row_told 1) : FnOk P w K mg base (L2.CX P w) 6 f fd ["text"] (SpM K G f_log_read 1) :=
  mk_fn F sc_log_read fun cdv A outer s H E d =>
 (ss_cons (s_if (t_cmp (op_eqU d) s_eq (d_var 0) d_str (nomark _))
 (ss_one (s_ret (d_lst a_nil)))
 ss_nil)
 (ss_cons (s_set d (d_lst a_nil))
 (ss_cons (s_clr [2, 3, 4] (s_for d (i_enum1 B.enumerate (a_cons (d_bm PySem.F.plainAttrs_str PySem.F.slot_str_split PySem.F.type_str_split mt_split s_split (fun _ _ _ _ _ em r h => tyStr em r h) (d_var 0) (a_cons d_str a_nil)) a_nil)) (g_tp d (gs_cons d (gs_cons d gs_nil)))
 (ss_cons (s_set d (d_call F_row_told d (a_cons (d_var 3) a_nil)))
 (ss_cons (s_if (t_cmp op_isN s_is (d_var 4) d_non (nomark _))
 (ss_one s_not)
 ss_nil)
 (ss_one (s_clr [2, 3, 4] (s_expr (d_bm PySem.F.plainAttrs_list PySem.F.slot_list_append PySem.F.type_list_append mt_append s_append (fun _ _ _ _ _ em r h => tyL em r h) (d_var 1) (a_cons (d_var 4) a_nil)))))))))
 (ss_one (s_ret (d_var 1))))))
theorem sc_deed_shown : FnScope ["deed", "part"] ["deed"] (defScope st_deed_shown) := ⟨rfl, rfl, rfl, by decide +kernel, rfl, by decide +kernel, by decide +kernel⟩
theorem ok_deed_shown {f : Addr} {fd : FuncData} (F : Fun K "deed_shown" "deed_shown" st_deed_shown f fd) (g : Gok K G) (B : Blt mg)  : FnOk P w K mg base (L2.CX P w) 1 f fd ["deed"] (SpM K G f_deed_shown 1) :=
  mk_fn F sc_deed_shown fun cdv A outer s H E d =>
 (ss_one (s_ret (d_bm PySem.F.plainAttrs_str PySem.F.slot_str_join PySem.F.type_str_join mt_join s_join (fun _ _ _ _ _ em r h => tyStr em r h) d_str (a_cons (d_lcv (d_lc (own := [("part", 1)]) (t := (.nm 1)) d (i_tup (d_var 0)) (by rfl) (fun _ _ _ _ _ d => (g_nm d)) (fun _ _ _ _ _ d => ts_nil) (fun _ _ _ _ _ d => (d_callT cr_strS s_strS B.str (a_cons (d_var 1) a_nil))))) a_nil))))
theorem sc_row_shown : FnScope ["row", "words", "some", "serial"] ["row"] (defScope st_row_shown) := ⟨rfl, rfl, rfl, by decide +kernel, rfl, by decide +kernel, by decide +kernel⟩
theorem ok_row_shown {f : Addr} {fd : FuncData} (F : Fun K "row_shown" "row_shown" st_row_shown f fd) (g : Gok K G) (B : Blt mg) (F_deed_shown : FnG P w K mg base G 1 "deed_shown" f_deed_shown 1) : FnOk P w K mg base (L2.CX P w) 2 f fd ["row"] (SpM K G f_row_shown 1) :=
  mk_fn F sc_row_shown fun cdv A outer s H E d =>
 (ss_cons (s_if (t_cmp (op_eqU d) s_eq (d_ix (d_var 0) d_int) d_str (nomark _))
 (ss_one (s_ret (d_bin op_addU s_add (d_bin op_addU s_add (d_call F_deed_shown d (a_cons (d_ix (d_var 0) d_int) a_nil)) d_str) (d_ix (d_var 0) d_int))))
 ss_nil)
 (ss_blk 2 (bb_scp (bb_cons (s_set d (d_lst (a_cons (d_ix (d_var 0) d_int) a_nil)))
 (bb_one (s_clr [2] (s_for d (i_tup (d_sl (d_var 0) (p_some d_int) p_none)) (g_nm d)
 (ss_cons (s_if (t_cmp (op_eqU d) s_eq (d_ix (d_var 0) d_int) d_str (nomark _))
 (ss_one (s_expr (d_bm PySem.F.plainAttrs_list PySem.F.slot_list_append PySem.F.type_list_append mt_append s_append (fun _ _ _ _ _ em r h => tyL em r h) (d_var 1) (a_cons d_str a_nil))))
 ss_nil)
 (ss_one (s_clr [2] (s_expr (d_bm PySem.F.plainAttrs_list PySem.F.slot_list_extend PySem.F.type_list_extend mt_extend s_extend (fun _ _ _ _ _ em r h => tyL em r h) (d_var 1) (a_cons (d_lcv (d_lc (own := [("serial", 3)]) (t := (.nm 3)) d (i_list (d_var 2)) (by rfl) (fun _ _ _ _ _ d => (g_nm d)) (fun _ _ _ _ _ d => ts_nil) (fun _ _ _ _ _ d => (d_callT cr_strS s_strS B.str (a_cons (d_var 3) a_nil))))) a_nil)))))))))))
 (ss_one (s_ret (d_bm PySem.F.plainAttrs_str PySem.F.slot_str_join PySem.F.type_str_join mt_join s_join (fun _ _ _ _ _ em r h => tyStr em r h) d_str (a_cons (d_var 1) a_nil))))))
theorem sc_log_shown : FnScope ["log", "row"] ["log"] (defScope st_log_shown) := ⟨rfl, rfl, rfl, by decide +kernel, rfl, by decide +kernel, by decide +kernel⟩
theorem ok_log_shown {f : Addr} {fd : FuncData} (F : Fun K "log_shown" "log_shown" st_log_shown f fd) (g : Gok K G) (B : Blt mg) (F_row_shown : FnG P w K mg base G 2 "row_shown" f_row_shown 1) : FnOk P w K mg base (L2.CX P w) 3 f fd ["log"] (SpM K G f_log_shown 1) :=
  mk_fn F sc_log_shown fun cdv A outer s H E d =>
 (ss_one (s_ret (d_bm PySem.F.plainAttrs_str PySem.F.slot_str_join PySem.F.type_str_join mt_join s_join (fun _ _ _ _ _ em r h => tyStr em r h) d_str (a_cons (d_lcv (d_lc (own := [("row", 1)]) (t := (.nm 1)) d (i_list (d_var 0)) (by rfl) (fun _ _ _ _ _ d => (g_nm d)) (fun _ _ _ _ _ d => ts_nil) (fun _ _ _ _ _ d => (d_call F_row_shown d (a_cons (d_var 1) a_nil))))) a_nil))))
theorem sc_law : FnScope ["_law_script", "_law_free", "_law_log", "_law_text", "_law_handed", "_law_told", "_law_found", "_law_row_here", "_law_some", "_law_cell", "_law_part"] ["_law_script"] (defScope st_law) := ⟨rfl, rfl, rfl, by decide +kernel, rfl, by decide +kernel, by decide +kernel⟩
theorem ok_law {f : Addr} {fd : FuncData} (F : Fun K "law" "law" st_law f fd) (g : Gok K G) (B : Blt mg) (F_law_cell_at : FnG P w K mg base G 1 "_law_cell_at" f_law_cell_at 2) (F_law_log_row : FnG P w K mg base G 3 "_law_log_row" f_law_log_row 2) (F_law_log_text : FnG P w K mg base G 2 "_law_log_text" f_law_log_text 1) (F_log_shown : FnG P w K mg base G 3 "log_shown" f_log_shown 1) (F_log_read : FnG P w K mg base G 6 "log_read" f_log_read 1) (F_law_form : FnG P w K mg base G 2 "_law_form" f_law_form 1) : FnOk P w K mg base (L2.CX P w) 7 f fd ["_law_script"] (SpM K G f_law 1) :=
  mk_fn F sc_law fun cdv A outer s H E d =>
 (ss_cons (s_set d (d_cmp (op_eqU d) s_eq (d_bin op_mod s_mod (d_call F_law_cell_at d (a_cons (d_var 0) (a_cons d_int a_nil))) d_int) d_int (nomark _)))
 (ss_cons (s_setLcX (i := 2) (own := [("_law_cell", 9)]) (t := (.nm 9)) d (i_list (d_sl (d_var 0) (p_some d_int) (p_some d_int))) (by rfl) (sw_true rfl rfl rfl (by rfl)) (fun _ _ _ _ _ d => (g_nm d)) (fun _ _ _ _ _ d => ts_nil) (fun _ _ _ _ _ d => (d_call F_law_log_row d (a_cons (d_var 9) (a_cons (d_var 1) a_nil)))))
 (ss_cons (s_set d (d_bm PySem.F.plainAttrs_str PySem.F.slot_str_join PySem.F.type_str_join mt_join s_join (fun _ _ _ _ _ em r h => tyStr em r h) d_str (a_cons (d_lcv (d_lc (own := [("_law_row_here", 7)]) (t := (.nm 7)) d (i_list (d_var 2)) (by rfl) (fun _ _ _ _ _ d => (g_nm d)) (fun _ _ _ _ _ d => ts_nil) (fun _ _ _ _ _ d => (d_call F_law_log_text d (a_cons (d_var 7) a_nil))))) a_nil)))
 (ss_cons (s_setLcX (i := 4) (own := [("_law_row_here", 7)]) (t := (.nm 7)) d (i_list (d_var 2)) (by rfl) (sw_true rfl rfl rfl (by rfl)) (fun _ _ _ _ _ d => (g_nm d)) (fun _ _ _ _ _ d => ts_nil) (fun _ _ _ _ _ d => (d_callT call_tuple_of s_tuple B.tuple (a_cons (d_lcv (d_lc (own := [("_law_part", 10)]) (t := (.nm 10)) d (i_tup (d_var 7)) (by rfl) (fun _ _ _ _ _ d => (g_nm d)) (fun _ _ _ _ _ d => ts_nil) (fun _ _ _ _ _ d => (d_ife (t_val (d_isi "list" B.isinstance B.list (d_var 10))) (d_callT (cr_listU d) s_listU B.list (a_cons (d_var 10) a_nil)) (d_var 10))))) a_nil))))
 (ss_cons (s_set d (d_call F_log_shown d (a_cons (d_var 4) a_nil)))
 (ss_cons (s_if (PW.pt (t_or (t_not (t_val (d_isi "str" B.isinstance B.str (d_var 5)))) (t_or (t_cmp (op_neU d) s_ne (d_var 5) (d_var 3) (nomark _)) (t_or1 (t_cmp (op_neU d) s_ne (d_var 4) (d_var 2) (nomark _))))))
 (ss_one (s_ret d_bl))
 ss_nil)
 (ss_cons (s_set d (d_call F_log_read d (a_cons (d_var 3) a_nil)))
 (ss_cons (s_if (PW.pt (t_or (t_not (t_val (d_isi "list" B.isinstance B.list (d_var 6)))) (t_or (t_cmp (op_neU d) s_ne (d_var 6) (d_var 2) (nomark _)) (t_or1 (t_not (t_val (d_call F_law_form d (a_cons (d_var 6) a_nil))))))))
 (ss_one (s_ret d_bl))
 ss_nil)
 (ss_cons (s_clr [7, 8] (s_for d (i_list (d_var 6)) (g_nm d)
 (ss_one (s_clr [7, 8] (s_clr [8] (s_for d (i_tup (d_sl (d_var 7) (p_some d_int) p_none)) (g_nm d)
 (ss_one (s_clr [8] (s_if (t_val (d_isi "list" B.isinstance B.list (d_var 8)))
 (ss_one (s_expr (d_bm PySem.F.plainAttrs_list PySem.F.slot_list_append PySem.F.type_list_append mt_append s_append (fun _ _ _ _ _ em r h => tyL em r h) (d_var 8) (a_cons d_str a_nil))))
 ss_nil)))))))))
 (ss_cons (s_expr (d_bm PySem.F.plainAttrs_list PySem.F.slot_list_append PySem.F.type_list_append mt_append s_append (fun _ _ _ _ _ em r h => tyL em r h) (d_var 6) (a_cons d_str a_nil)))
 (ss_cons (s_if (PW.pt (t_or (t_cmp (op_neU d) s_ne (d_ex false (d_call F_log_read d (a_cons d_str a_nil))) (d_lst a_nil) (nomark _)) (t_or (t_cmp (op_neU d) s_ne (d_call F_log_shown d (a_cons (d_lst a_nil) a_nil)) d_str (nomark _)) (t_or1 (t_cmp (op_neU d) s_ne (d_ex false (d_call F_log_read d (a_cons d_str a_nil))) (d_lst (a_cons (d_tup (a_cons d_str a_nil)) a_nil)) (nomark _))))))
 (ss_one (s_ret d_bl))
 ss_nil)
 (ss_one (s_ret (d_and (d_cmp (op_eqU d) s_eq (d_ex false (d_call F_log_read d (a_cons (d_var 3) a_nil))) (d_var 2) (nomark _)) (d_one (d_cmp (op_eqU d) s_eq (d_call F_log_shown d (a_cons (d_var 4) a_nil)) (d_var 3) (nomark _)))))))))))))))))
end
def ga (_a : Addr) : Ga where
  cl := fun c => match c with
    | _ => 0
  has := fun c => match c with
    | _ => false
  xc := fun c => match c with
    | _ => 0
theorem all_mk {l : PySem.W.OpenLaw} {w : World} {K : PySem.W.Frag} {h : Heap} {mg : Str → Option Value} {fa x_law_cell_at x_law_whole x_law_form x_law_drawn x_law_deed_by x_law_numbers x_law_log_row x_law_row x_law_log_text x_number_told x_part_told x_deed_told x_is_answer x_deed_row_told x_freed_told x_turn_told x_row_told x_log_read x_deed_shown x_row_shown x_log_shown x_law : Addr} {K_ANSWERS K_FORMS : Addr} {nn_ANSWERS : Nat} {slk_ANSWERS : Array (Option Value)} {tk_ANSWERS_0 tk_ANSWERS_1 tk_ANSWERS_2 tk_ANSWERS_3 tk_ANSWERS_4 tk_ANSWERS_5 tk_ANSWERS_6 tk_ANSWERS_7 tk_ANSWERS_8 tk_FIGURES tk_LETTERS tk_LISTS tk_MOST_FIELDS : Tok} (X : K.In h) (Gn : h.Ns mainGlobals mg) (hfa : mg "law" = some (.ref fa))
    {od_law_cell_at an_law_cell_at od_law_whole an_law_whole od_law_form an_law_form od_law_drawn an_law_drawn od_law_deed_by an_law_deed_by od_law_numbers an_law_numbers od_law_log_row an_law_log_row od_law_row an_law_row od_law_log_text an_law_log_text od_number_told an_number_told od_part_told an_part_told od_deed_told an_deed_told od_is_answer an_is_answer od_deed_row_told an_deed_row_told od_freed_told an_freed_told od_turn_told an_turn_told od_row_told an_row_told od_log_read an_log_read od_deed_shown an_deed_shown od_row_shown an_row_shown od_log_shown an_log_shown od_law an_law : Option Addr} {sl_law_cell_at sl_law_whole sl_law_form sl_law_drawn sl_law_deed_by sl_law_numbers sl_law_log_row sl_law_row sl_law_log_text sl_number_told sl_part_told sl_deed_told sl_is_answer sl_deed_row_told sl_freed_told sl_turn_told sl_row_told sl_log_read sl_deed_shown sl_row_shown sl_log_shown sl_law : Array (Option Value)} {oc_law_cell_at kV_law_cell_at dc_law_cell_at pm_law_cell_at cd_law_cell_at ct_law_cell_at oc_law_whole kV_law_whole dc_law_whole pm_law_whole cd_law_whole ct_law_whole oc_law_form kV_law_form dc_law_form pm_law_form cd_law_form ct_law_form oc_law_drawn kV_law_drawn dc_law_drawn pm_law_drawn cd_law_drawn ct_law_drawn oc_law_deed_by kV_law_deed_by dc_law_deed_by pm_law_deed_by cd_law_deed_by ct_law_deed_by oc_law_numbers kV_law_numbers dc_law_numbers pm_law_numbers cd_law_numbers ct_law_numbers oc_law_log_row kV_law_log_row dc_law_log_row pm_law_log_row cd_law_log_row ct_law_log_row oc_law_row kV_law_row dc_law_row pm_law_row cd_law_row ct_law_row oc_law_log_text kV_law_log_text dc_law_log_text pm_law_log_text cd_law_log_text ct_law_log_text oc_number_told kV_number_told dc_number_told pm_number_told cd_number_told ct_number_told oc_part_told kV_part_told dc_part_told pm_part_told cd_part_told ct_part_told oc_deed_told kV_deed_told dc_deed_told pm_deed_told cd_deed_told ct_deed_told oc_is_answer kV_is_answer dc_is_answer pm_is_answer cd_is_answer ct_is_answer oc_deed_row_told kV_deed_row_told dc_deed_row_told pm_deed_row_told cd_deed_row_told ct_deed_row_told oc_freed_told kV_freed_told dc_freed_told pm_freed_told cd_freed_told ct_freed_told oc_turn_told kV_turn_told dc_turn_told pm_turn_told cd_turn_told ct_turn_told oc_row_told kV_row_told dc_row_told pm_row_told cd_row_told ct_row_told oc_log_read kV_log_read dc_log_read pm_log_read cd_log_read ct_log_read oc_deed_shown kV_deed_shown dc_deed_shown pm_deed_shown cd_deed_shown ct_deed_shown oc_row_shown kV_row_shown dc_row_shown pm_row_shown cd_row_shown ct_row_shown oc_log_shown kV_log_shown dc_log_shown pm_log_shown cd_log_shown ct_log_shown oc_law kV_law dc_law pm_law cd_law ct_law : Value}
    (g_law_cell_at : PySem.W.nsIn K mainGlobals "_law_cell_at" = some (some (.ref x_law_cell_at)))
    (l_law_cell_at : K.lookup x_law_cell_at = some ⟨oc_law_cell_at, od_law_cell_at, .func (PySem.W.fnOf "_law_cell_at" "_law_cell_at" (defArgs st_law_cell_at) (defBody st_law_cell_at) (defScope st_law_cell_at) .none kV_law_cell_at dc_law_cell_at pm_law_cell_at an_law_cell_at cd_law_cell_at ct_law_cell_at), sl_law_cell_at⟩)
    (c_law_cell_at' : PySem.W.codeIn K cd_law_cell_at "_law_cell_at" = true)
    (k_law_cell_at : PySem.W.keepIn K (.ref x_law_cell_at) = true)
    (g_law_whole : PySem.W.nsIn K mainGlobals "_law_whole" = some (some (.ref x_law_whole)))
    (l_law_whole : K.lookup x_law_whole = some ⟨oc_law_whole, od_law_whole, .func (PySem.W.fnOf "_law_whole" "_law_whole" (defArgs st_law_whole) (defBody st_law_whole) (defScope st_law_whole) .none kV_law_whole dc_law_whole pm_law_whole an_law_whole cd_law_whole ct_law_whole), sl_law_whole⟩)
    (c_law_whole' : PySem.W.codeIn K cd_law_whole "_law_whole" = true)
    (k_law_whole : PySem.W.keepIn K (.ref x_law_whole) = true)
    (g_law_form : PySem.W.nsIn K mainGlobals "_law_form" = some (some (.ref x_law_form)))
    (l_law_form : K.lookup x_law_form = some ⟨oc_law_form, od_law_form, .func (PySem.W.fnOf "_law_form" "_law_form" (defArgs st_law_form) (defBody st_law_form) (defScope st_law_form) .none kV_law_form dc_law_form pm_law_form an_law_form cd_law_form ct_law_form), sl_law_form⟩)
    (c_law_form' : PySem.W.codeIn K cd_law_form "_law_form" = true)
    (k_law_form : PySem.W.keepIn K (.ref x_law_form) = true)
    (g_law_drawn : PySem.W.nsIn K mainGlobals "_law_drawn" = some (some (.ref x_law_drawn)))
    (l_law_drawn : K.lookup x_law_drawn = some ⟨oc_law_drawn, od_law_drawn, .func (PySem.W.fnOf "_law_drawn" "_law_drawn" (defArgs st_law_drawn) (defBody st_law_drawn) (defScope st_law_drawn) .none kV_law_drawn dc_law_drawn pm_law_drawn an_law_drawn cd_law_drawn ct_law_drawn), sl_law_drawn⟩)
    (c_law_drawn' : PySem.W.codeIn K cd_law_drawn "_law_drawn" = true)
    (k_law_drawn : PySem.W.keepIn K (.ref x_law_drawn) = true)
    (g_law_deed_by : PySem.W.nsIn K mainGlobals "_law_deed_by" = some (some (.ref x_law_deed_by)))
    (l_law_deed_by : K.lookup x_law_deed_by = some ⟨oc_law_deed_by, od_law_deed_by, .func (PySem.W.fnOf "_law_deed_by" "_law_deed_by" (defArgs st_law_deed_by) (defBody st_law_deed_by) (defScope st_law_deed_by) .none kV_law_deed_by dc_law_deed_by pm_law_deed_by an_law_deed_by cd_law_deed_by ct_law_deed_by), sl_law_deed_by⟩)
    (c_law_deed_by' : PySem.W.codeIn K cd_law_deed_by "_law_deed_by" = true)
    (k_law_deed_by : PySem.W.keepIn K (.ref x_law_deed_by) = true)
    (g_law_numbers : PySem.W.nsIn K mainGlobals "_law_numbers" = some (some (.ref x_law_numbers)))
    (l_law_numbers : K.lookup x_law_numbers = some ⟨oc_law_numbers, od_law_numbers, .func (PySem.W.fnOf "_law_numbers" "_law_numbers" (defArgs st_law_numbers) (defBody st_law_numbers) (defScope st_law_numbers) .none kV_law_numbers dc_law_numbers pm_law_numbers an_law_numbers cd_law_numbers ct_law_numbers), sl_law_numbers⟩)
    (c_law_numbers' : PySem.W.codeIn K cd_law_numbers "_law_numbers" = true)
    (k_law_numbers : PySem.W.keepIn K (.ref x_law_numbers) = true)
    (g_law_log_row : PySem.W.nsIn K mainGlobals "_law_log_row" = some (some (.ref x_law_log_row)))
    (l_law_log_row : K.lookup x_law_log_row = some ⟨oc_law_log_row, od_law_log_row, .func (PySem.W.fnOf "_law_log_row" "_law_log_row" (defArgs st_law_log_row) (defBody st_law_log_row) (defScope st_law_log_row) .none kV_law_log_row dc_law_log_row pm_law_log_row an_law_log_row cd_law_log_row ct_law_log_row), sl_law_log_row⟩)
    (c_law_log_row' : PySem.W.codeIn K cd_law_log_row "_law_log_row" = true)
    (k_law_log_row : PySem.W.keepIn K (.ref x_law_log_row) = true)
    (g_law_row : PySem.W.nsIn K mainGlobals "_law_row" = some (some (.ref x_law_row)))
    (l_law_row : K.lookup x_law_row = some ⟨oc_law_row, od_law_row, .func (PySem.W.fnOf "_law_row" "_law_row" (defArgs st_law_row) (defBody st_law_row) (defScope st_law_row) .none kV_law_row dc_law_row pm_law_row an_law_row cd_law_row ct_law_row), sl_law_row⟩)
    (c_law_row' : PySem.W.codeIn K cd_law_row "_law_row" = true)
    (k_law_row : PySem.W.keepIn K (.ref x_law_row) = true)
    (g_law_log_text : PySem.W.nsIn K mainGlobals "_law_log_text" = some (some (.ref x_law_log_text)))
    (l_law_log_text : K.lookup x_law_log_text = some ⟨oc_law_log_text, od_law_log_text, .func (PySem.W.fnOf "_law_log_text" "_law_log_text" (defArgs st_law_log_text) (defBody st_law_log_text) (defScope st_law_log_text) .none kV_law_log_text dc_law_log_text pm_law_log_text an_law_log_text cd_law_log_text ct_law_log_text), sl_law_log_text⟩)
    (c_law_log_text' : PySem.W.codeIn K cd_law_log_text "_law_log_text" = true)
    (k_law_log_text : PySem.W.keepIn K (.ref x_law_log_text) = true)
    (g_number_told : PySem.W.nsIn K mainGlobals "number_told" = some (some (.ref x_number_told)))
    (l_number_told : K.lookup x_number_told = some ⟨oc_number_told, od_number_told, .func (PySem.W.fnOf "number_told" "number_told" (defArgs st_number_told) (defBody st_number_told) (defScope st_number_told) .none kV_number_told dc_number_told pm_number_told an_number_told cd_number_told ct_number_told), sl_number_told⟩)
    (c_number_told' : PySem.W.codeIn K cd_number_told "number_told" = true)
    (k_number_told : PySem.W.keepIn K (.ref x_number_told) = true)
    (g_part_told : PySem.W.nsIn K mainGlobals "part_told" = some (some (.ref x_part_told)))
    (l_part_told : K.lookup x_part_told = some ⟨oc_part_told, od_part_told, .func (PySem.W.fnOf "part_told" "part_told" (defArgs st_part_told) (defBody st_part_told) (defScope st_part_told) .none kV_part_told dc_part_told pm_part_told an_part_told cd_part_told ct_part_told), sl_part_told⟩)
    (c_part_told' : PySem.W.codeIn K cd_part_told "part_told" = true)
    (k_part_told : PySem.W.keepIn K (.ref x_part_told) = true)
    (g_deed_told : PySem.W.nsIn K mainGlobals "deed_told" = some (some (.ref x_deed_told)))
    (l_deed_told : K.lookup x_deed_told = some ⟨oc_deed_told, od_deed_told, .func (PySem.W.fnOf "deed_told" "deed_told" (defArgs st_deed_told) (defBody st_deed_told) (defScope st_deed_told) .none kV_deed_told dc_deed_told pm_deed_told an_deed_told cd_deed_told ct_deed_told), sl_deed_told⟩)
    (c_deed_told' : PySem.W.codeIn K cd_deed_told "deed_told" = true)
    (k_deed_told : PySem.W.keepIn K (.ref x_deed_told) = true)
    (g_is_answer : PySem.W.nsIn K mainGlobals "is_answer" = some (some (.ref x_is_answer)))
    (l_is_answer : K.lookup x_is_answer = some ⟨oc_is_answer, od_is_answer, .func (PySem.W.fnOf "is_answer" "is_answer" (defArgs st_is_answer) (defBody st_is_answer) (defScope st_is_answer) .none kV_is_answer dc_is_answer pm_is_answer an_is_answer cd_is_answer ct_is_answer), sl_is_answer⟩)
    (c_is_answer' : PySem.W.codeIn K cd_is_answer "is_answer" = true)
    (k_is_answer : PySem.W.keepIn K (.ref x_is_answer) = true)
    (g_deed_row_told : PySem.W.nsIn K mainGlobals "deed_row_told" = some (some (.ref x_deed_row_told)))
    (l_deed_row_told : K.lookup x_deed_row_told = some ⟨oc_deed_row_told, od_deed_row_told, .func (PySem.W.fnOf "deed_row_told" "deed_row_told" (defArgs st_deed_row_told) (defBody st_deed_row_told) (defScope st_deed_row_told) .none kV_deed_row_told dc_deed_row_told pm_deed_row_told an_deed_row_told cd_deed_row_told ct_deed_row_told), sl_deed_row_told⟩)
    (c_deed_row_told' : PySem.W.codeIn K cd_deed_row_told "deed_row_told" = true)
    (k_deed_row_told : PySem.W.keepIn K (.ref x_deed_row_told) = true)
    (g_freed_told : PySem.W.nsIn K mainGlobals "freed_told" = some (some (.ref x_freed_told)))
    (l_freed_told : K.lookup x_freed_told = some ⟨oc_freed_told, od_freed_told, .func (PySem.W.fnOf "freed_told" "freed_told" (defArgs st_freed_told) (defBody st_freed_told) (defScope st_freed_told) .none kV_freed_told dc_freed_told pm_freed_told an_freed_told cd_freed_told ct_freed_told), sl_freed_told⟩)
    (c_freed_told' : PySem.W.codeIn K cd_freed_told "freed_told" = true)
    (k_freed_told : PySem.W.keepIn K (.ref x_freed_told) = true)
    (g_turn_told : PySem.W.nsIn K mainGlobals "turn_told" = some (some (.ref x_turn_told)))
    (l_turn_told : K.lookup x_turn_told = some ⟨oc_turn_told, od_turn_told, .func (PySem.W.fnOf "turn_told" "turn_told" (defArgs st_turn_told) (defBody st_turn_told) (defScope st_turn_told) .none kV_turn_told dc_turn_told pm_turn_told an_turn_told cd_turn_told ct_turn_told), sl_turn_told⟩)
    (c_turn_told' : PySem.W.codeIn K cd_turn_told "turn_told" = true)
    (k_turn_told : PySem.W.keepIn K (.ref x_turn_told) = true)
    (g_row_told : PySem.W.nsIn K mainGlobals "row_told" = some (some (.ref x_row_told)))
    (l_row_told : K.lookup x_row_told = some ⟨oc_row_told, od_row_told, .func (PySem.W.fnOf "row_told" "row_told" (defArgs st_row_told) (defBody st_row_told) (defScope st_row_told) .none kV_row_told dc_row_told pm_row_told an_row_told cd_row_told ct_row_told), sl_row_told⟩)
    (c_row_told' : PySem.W.codeIn K cd_row_told "row_told" = true)
    (k_row_told : PySem.W.keepIn K (.ref x_row_told) = true)
    (g_log_read : PySem.W.nsIn K mainGlobals "log_read" = some (some (.ref x_log_read)))
    (l_log_read : K.lookup x_log_read = some ⟨oc_log_read, od_log_read, .func (PySem.W.fnOf "log_read" "log_read" (defArgs st_log_read) (defBody st_log_read) (defScope st_log_read) .none kV_log_read dc_log_read pm_log_read an_log_read cd_log_read ct_log_read), sl_log_read⟩)
    (c_log_read' : PySem.W.codeIn K cd_log_read "log_read" = true)
    (k_log_read : PySem.W.keepIn K (.ref x_log_read) = true)
    (g_deed_shown : PySem.W.nsIn K mainGlobals "deed_shown" = some (some (.ref x_deed_shown)))
    (l_deed_shown : K.lookup x_deed_shown = some ⟨oc_deed_shown, od_deed_shown, .func (PySem.W.fnOf "deed_shown" "deed_shown" (defArgs st_deed_shown) (defBody st_deed_shown) (defScope st_deed_shown) .none kV_deed_shown dc_deed_shown pm_deed_shown an_deed_shown cd_deed_shown ct_deed_shown), sl_deed_shown⟩)
    (c_deed_shown' : PySem.W.codeIn K cd_deed_shown "deed_shown" = true)
    (k_deed_shown : PySem.W.keepIn K (.ref x_deed_shown) = true)
    (g_row_shown : PySem.W.nsIn K mainGlobals "row_shown" = some (some (.ref x_row_shown)))
    (l_row_shown : K.lookup x_row_shown = some ⟨oc_row_shown, od_row_shown, .func (PySem.W.fnOf "row_shown" "row_shown" (defArgs st_row_shown) (defBody st_row_shown) (defScope st_row_shown) .none kV_row_shown dc_row_shown pm_row_shown an_row_shown cd_row_shown ct_row_shown), sl_row_shown⟩)
    (c_row_shown' : PySem.W.codeIn K cd_row_shown "row_shown" = true)
    (k_row_shown : PySem.W.keepIn K (.ref x_row_shown) = true)
    (g_log_shown : PySem.W.nsIn K mainGlobals "log_shown" = some (some (.ref x_log_shown)))
    (l_log_shown : K.lookup x_log_shown = some ⟨oc_log_shown, od_log_shown, .func (PySem.W.fnOf "log_shown" "log_shown" (defArgs st_log_shown) (defBody st_log_shown) (defScope st_log_shown) .none kV_log_shown dc_log_shown pm_log_shown an_log_shown cd_log_shown ct_log_shown), sl_log_shown⟩)
    (c_log_shown' : PySem.W.codeIn K cd_log_shown "log_shown" = true)
    (k_log_shown : PySem.W.keepIn K (.ref x_log_shown) = true)
    (g_law : PySem.W.nsIn K mainGlobals "law" = some (some (.ref x_law)))
    (l_law : K.lookup x_law = some ⟨oc_law, od_law, .func (PySem.W.fnOf "law" "law" (defArgs st_law) (defBody st_law) (defScope st_law) .none kV_law dc_law pm_law an_law cd_law ct_law), sl_law⟩)
    (c_law' : PySem.W.codeIn K cd_law "law" = true)
    (k_law : PySem.W.keepIn K (.ref x_law) = true)
    (aK_FORMS : PySem.W.nsIn K mainGlobals "FORMS" = some (some (.ref K_FORMS)))
    (sD_FORMS : (K_FORMS == sysModules) = false)
    (lD_FORMS : dctS K K_FORMS = some c_FORMS)
    (hD_FORMS : hashI K K_FORMS = c_FORMS.map fun p => PyData.keyHash w.params p.1)
    (aK_ANSWERS : PySem.W.nsIn K mainGlobals "ANSWERS" = some (some (.ref K_ANSWERS)))
    (lK_ANSWERS : K.lookup K_ANSWERS = some ⟨.type "tuple", none, .seq #[.str "ok" tk_ANSWERS_0, .str "yes" tk_ANSWERS_1, .str "no" tk_ANSWERS_2, .str "none" tk_ANSWERS_3, .str "thing" tk_ANSWERS_4, .str "nothing" tk_ANSWERS_5, .str "no thing" tk_ANSWERS_6, .str "no field" tk_ANSWERS_7, .str "no room" tk_ANSWERS_8] nn_ANSWERS, slk_ANSWERS⟩)
    (aK_FIGURES : PySem.W.nsIn K mainGlobals "FIGURES" = some (some (.str "0123456789" tk_FIGURES)))
    (aK_LETTERS : PySem.W.nsIn K mainGlobals "LETTERS" = some (some (.str "abcdefghijklmnopqrstuvwxyz" tk_LETTERS)))
    (aK_LISTS : PySem.W.nsIn K mainGlobals "LISTS" = some (some (.int 7 tk_LISTS)))
    (aK_MOST_FIELDS : PySem.W.nsIn K mainGlobals "MOST_FIELDS" = some (some (.int 8 tk_MOST_FIELDS)))
    (z_abs : PySem.W.nsIn K mainGlobals "abs" = some none)
    (z_any : PySem.W.nsIn K mainGlobals "any" = some none)
    (z_bool : PySem.W.nsIn K mainGlobals "bool" = some none)
    (z_enumerate : PySem.W.nsIn K mainGlobals "enumerate" = some none)
    (z_int : PySem.W.nsIn K mainGlobals "int" = some none)
    (z_isinstance : PySem.W.nsIn K mainGlobals "isinstance" = some none)
    (z_len : PySem.W.nsIn K mainGlobals "len" = some none)
    (z_list : PySem.W.nsIn K mainGlobals "list" = some none)
    (z_range : PySem.W.nsIn K mainGlobals "range" = some none)
    (z_str : PySem.W.nsIn K mainGlobals "str" = some none)
    (z_tuple : PySem.W.nsIn K mainGlobals "tuple" = some none)
    (z_zip : PySem.W.nsIn K mainGlobals "zip" = some none)
    (hlaw : ∀ ns : List Int, ns.length ≤ 63 → (∀ z ∈ ns, Builtin.Int.intBits z ≤ 1048576) → ∃ S', f_law [scr ns] [] = .ok (.bl true) S') :
    ∃ (fd : FuncData) (G : Ga), (∀ (s : Shared) (v : Value), BindsTo s fd ⟨[v], []⟩ [("_law_script", v)]) ∧ ∀ base : Heap, K.In base → base.Ns mainGlobals mg → FnOk l.prog w K mg base (L2.CX l.prog w) 7 fa fd ["_law_script"] (SpM K G f_law 1) := by
  have e := hfa.symm.trans (PySem.W.mg_of X Gn g_law)
  cases e
  have g : Gok K (ga 0) := by
    refine ⟨fun c hc => ?_, fun c f hc hf => ?_⟩
    · cases c <;> exact absurd (show false = true from hc) Bool.false_ne_true
    · cases c <;> exact absurd (show false = true from hc) Bool.false_ne_true
  have B : Blt mg := ⟨PySem.W.mg_none_of X Gn z_abs, PySem.W.mg_none_of X Gn z_any, PySem.W.mg_none_of X Gn z_bool, PySem.W.mg_none_of X Gn z_enumerate, PySem.W.mg_none_of X Gn z_int, PySem.W.mg_none_of X Gn z_isinstance, PySem.W.mg_none_of X Gn z_len, PySem.W.mg_none_of X Gn z_list, PySem.W.mg_none_of X Gn z_range, PySem.W.mg_none_of X Gn z_str, PySem.W.mg_none_of X Gn z_tuple, PySem.W.mg_none_of X Gn z_zip⟩
  have F'law_cell_at := fun_mk (st := st_law_cell_at) l_law_cell_at c_law_cell_at' k_law_cell_at
  have b'law_cell_at := F'law_cell_at.binds (ps := ["_law_script", "_law_k"]) fun _ _ _ _ _ _ us hl => match us, hl with | [_, _], _ => rfl
  have F'law_whole := fun_mk (st := st_law_whole) l_law_whole c_law_whole' k_law_whole
  have b'law_whole := F'law_whole.binds (ps := ["_law_found"]) fun _ _ _ _ _ _ us hl => match us, hl with | [_], _ => rfl
  have F'law_form := fun_mk (st := st_law_form) l_law_form c_law_form' k_law_form
  have b'law_form := F'law_form.binds (ps := ["_law_found"]) fun _ _ _ _ _ _ us hl => match us, hl with | [_], _ => rfl
  have F'law_drawn := fun_mk (st := st_law_drawn) l_law_drawn c_law_drawn' k_law_drawn
  have b'law_drawn := F'law_drawn.binds (ps := ["_law_cell", "_law_sizes", "_law_free"]) fun _ _ _ _ _ _ us hl => match us, hl with | [_, _, _], _ => rfl
  have F'law_deed_by := fun_mk (st := st_law_deed_by) l_law_deed_by c_law_deed_by' k_law_deed_by
  have b'law_deed_by := F'law_deed_by.binds (ps := ["_law_cell", "_law_free"]) fun _ _ _ _ _ _ us hl => match us, hl with | [_, _], _ => rfl
  have F'law_numbers := fun_mk (st := st_law_numbers) l_law_numbers c_law_numbers' k_law_numbers
  have b'law_numbers := F'law_numbers.binds (ps := ["_law_number", "_law_many"]) fun _ _ _ _ _ _ us hl => match us, hl with | [_, _], _ => rfl
  have F'law_log_row := fun_mk (st := st_law_log_row) l_law_log_row c_law_log_row' k_law_log_row
  have b'law_log_row := F'law_log_row.binds (ps := ["_law_cell", "_law_free"]) fun _ _ _ _ _ _ us hl => match us, hl with | [_, _], _ => rfl
  have F'law_row := fun_mk (st := st_law_row) l_law_row c_law_row' k_law_row
  have b'law_row := F'law_row.binds (ps := ["_law_deed"]) fun _ _ _ _ _ _ us hl => match us, hl with | [_], _ => rfl
  have F'law_log_text := fun_mk (st := st_law_log_text) l_law_log_text c_law_log_text' k_law_log_text
  have b'law_log_text := F'law_log_text.binds (ps := ["_law_row_here"]) fun _ _ _ _ _ _ us hl => match us, hl with | [_], _ => rfl
  have F'number_told := fun_mk (st := st_number_told) l_number_told c_number_told' k_number_told
  have b'number_told := F'number_told.binds (ps := ["text"]) fun _ _ _ _ _ _ us hl => match us, hl with | [_], _ => rfl
  have F'part_told := fun_mk (st := st_part_told) l_part_told c_part_told' k_part_told
  have b'part_told := F'part_told.binds (ps := ["form", "text"]) fun _ _ _ _ _ _ us hl => match us, hl with | [_, _], _ => rfl
  have F'deed_told := fun_mk (st := st_deed_told) l_deed_told c_deed_told' k_deed_told
  have b'deed_told := F'deed_told.binds (ps := ["text"]) fun _ _ _ _ _ _ us hl => match us, hl with | [_], _ => rfl
  have F'is_answer := fun_mk (st := st_is_answer) l_is_answer c_is_answer' k_is_answer
  have b'is_answer := F'is_answer.binds (ps := ["text"]) fun _ _ _ _ _ _ us hl => match us, hl with | [_], _ => rfl
  have F'deed_row_told := fun_mk (st := st_deed_row_told) l_deed_row_told c_deed_row_told' k_deed_row_told
  have b'deed_row_told := F'deed_row_told.binds (ps := ["start", "answer"]) fun _ _ _ _ _ _ us hl => match us, hl with | [_, _], _ => rfl
  have F'freed_told := fun_mk (st := st_freed_told) l_freed_told c_freed_told' k_freed_told
  have b'freed_told := F'freed_told.binds (ps := ["words"]) fun _ _ _ _ _ _ us hl => match us, hl with | [_], _ => rfl
  have F'turn_told := fun_mk (st := st_turn_told) l_turn_told c_turn_told' k_turn_told
  have b'turn_told := F'turn_told.binds (ps := ["words"]) fun _ _ _ _ _ _ us hl => match us, hl with | [_], _ => rfl
  have F'row_told := fun_mk (st := st_row_told) l_row_told c_row_told' k_row_told
  have b'row_told := F'row_told.binds (ps := ["row"]) fun _ _ _ _ _ _ us hl => match us, hl with | [_], _ => rfl
  have F'log_read := fun_mk (st := st_log_read) l_log_read c_log_read' k_log_read
  have b'log_read := F'log_read.binds (ps := ["text"]) fun _ _ _ _ _ _ us hl => match us, hl with | [_], _ => rfl
  have F'deed_shown := fun_mk (st := st_deed_shown) l_deed_shown c_deed_shown' k_deed_shown
  have b'deed_shown := F'deed_shown.binds (ps := ["deed"]) fun _ _ _ _ _ _ us hl => match us, hl with | [_], _ => rfl
  have F'row_shown := fun_mk (st := st_row_shown) l_row_shown c_row_shown' k_row_shown
  have b'row_shown := F'row_shown.binds (ps := ["row"]) fun _ _ _ _ _ _ us hl => match us, hl with | [_], _ => rfl
  have F'log_shown := fun_mk (st := st_log_shown) l_log_shown c_log_shown' k_log_shown
  have b'log_shown := F'log_shown.binds (ps := ["log"]) fun _ _ _ _ _ _ us hl => match us, hl with | [_], _ => rfl
  have F'law := fun_mk (st := st_law) l_law c_law' k_law
  refine ⟨PySem.W.fnOf "law" "law" (defArgs st_law) (defBody st_law) (defScope st_law) .none kV_law dc_law pm_law an_law cd_law ct_law, ga 0, fun s v => .of_eq rfl, fun base _ _ => ?_⟩
  have ok'law_cell_at := ok_law_cell_at (P := l.prog) (w := w) (base := base) F'law_cell_at g B 
  have ok'law_whole := ok_law_whole (P := l.prog) (w := w) (base := base) F'law_whole g B 
  have F_law_whole : FnG l.prog w K mg base (ga 0) 1 "_law_whole" f_law_whole 1 := ⟨_, _, _, ok'law_whole, PySem.W.mg_of X Gn g_law_whole, k_law_whole, b'law_whole⟩
  have ok'law_form := ok_law_form (P := l.prog) (w := w) (base := base) F'law_form g B F_law_whole
  have ok'law_drawn := ok_law_drawn (P := l.prog) (w := w) (base := base) F'law_drawn g B 
  have F_law_drawn : FnG l.prog w K mg base (ga 0) 1 "_law_drawn" f_law_drawn 3 := ⟨_, _, _, ok'law_drawn, PySem.W.mg_of X Gn g_law_drawn, k_law_drawn, b'law_drawn⟩
  have ok'law_deed_by := ok_law_deed_by (P := l.prog) (w := w) (base := base) F'law_deed_by g B F_law_drawn
  have ok'law_numbers := ok_law_numbers (P := l.prog) (w := w) (base := base) F'law_numbers g B 
  have F_law_deed_by : FnG l.prog w K mg base (ga 0) 2 "_law_deed_by" f_law_deed_by 2 := ⟨_, _, _, ok'law_deed_by, PySem.W.mg_of X Gn g_law_deed_by, k_law_deed_by, b'law_deed_by⟩
  have F_law_numbers : FnG l.prog w K mg base (ga 0) 1 "_law_numbers" f_law_numbers 2 := ⟨_, _, _, ok'law_numbers, PySem.W.mg_of X Gn g_law_numbers, k_law_numbers, b'law_numbers⟩
  have ok'law_log_row := ok_law_log_row (P := l.prog) (w := w) (base := base) F'law_log_row g B F_law_drawn F_law_deed_by F_law_numbers
  have ok'law_row := ok_law_row (P := l.prog) (w := w) (base := base) F'law_row g B 
  have F_law_row : FnG l.prog w K mg base (ga 0) 1 "_law_row" f_law_row 1 := ⟨_, _, _, ok'law_row, PySem.W.mg_of X Gn g_law_row, k_law_row, b'law_row⟩
  have ok'law_log_text := ok_law_log_text (P := l.prog) (w := w) (base := base) F'law_log_text g B F_law_row
  have C_FIGURES : GlC K (ga 0) mg "FIGURES" c_FIGURES := glc_str (PySem.W.mg_of X Gn aK_FIGURES)
  have ok'number_told := ok_number_told (P := l.prog) (w := w) (base := base) F'number_told g B C_FIGURES
  have C_LETTERS : GlC K (ga 0) mg "LETTERS" c_LETTERS := glc_str (PySem.W.mg_of X Gn aK_LETTERS)
  have F_number_told : FnG l.prog w K mg base (ga 0) 1 "number_told" f_number_told 1 := ⟨_, _, _, ok'number_told, PySem.W.mg_of X Gn g_number_told, k_number_told, b'number_told⟩
  have C_MOST_FIELDS : GlC K (ga 0) mg "MOST_FIELDS" c_MOST_FIELDS := glc_int (PySem.W.mg_of X Gn aK_MOST_FIELDS)
  have ok'part_told := ok_part_told (P := l.prog) (w := w) (base := base) F'part_told g B C_LETTERS F_number_told C_MOST_FIELDS
  have Z_FORMS : DcS l.prog w K mg "FORMS" c_FORMS := DcS.of (PySem.W.mg_of X Gn aK_FORMS) sD_FORMS lD_FORMS hD_FORMS
  have F_part_told : FnG l.prog w K mg base (ga 0) 2 "part_told" f_part_told 2 := ⟨_, _, _, ok'part_told, PySem.W.mg_of X Gn g_part_told, k_part_told, b'part_told⟩
  have ok'deed_told := ok_deed_told (P := l.prog) (w := w) (base := base) F'deed_told g B Z_FORMS F_part_told
  have T_ANSWERS : GlT K mg "ANSWERS" c_ANSWERS := ⟨K_ANSWERS, _, nn_ANSWERS, slk_ANSWERS, PySem.W.mg_of X Gn aK_ANSWERS, lK_ANSWERS, by show 9 ≤ sizeLine; rw [sizeLine_eq]; decide, (.cons ⟨_, rfl⟩ (.cons ⟨_, rfl⟩ (.cons ⟨_, rfl⟩ (.cons ⟨_, rfl⟩ (.cons ⟨_, rfl⟩ (.cons ⟨_, rfl⟩ (.cons ⟨_, rfl⟩ (.cons ⟨_, rfl⟩ (.cons ⟨_, rfl⟩ .nil)))))))))⟩
  have ok'is_answer := ok_is_answer (P := l.prog) (w := w) (base := base) F'is_answer g B T_ANSWERS F_number_told
  have F_deed_told : FnG l.prog w K mg base (ga 0) 3 "deed_told" f_deed_told 1 := ⟨_, _, _, ok'deed_told, PySem.W.mg_of X Gn g_deed_told, k_deed_told, b'deed_told⟩
  have F_is_answer : FnG l.prog w K mg base (ga 0) 2 "is_answer" f_is_answer 1 := ⟨_, _, _, ok'is_answer, PySem.W.mg_of X Gn g_is_answer, k_is_answer, b'is_answer⟩
  have ok'deed_row_told := ok_deed_row_told (P := l.prog) (w := w) (base := base) F'deed_row_told g B F_deed_told F_is_answer
  have ok'freed_told := ok_freed_told (P := l.prog) (w := w) (base := base) F'freed_told g B F_number_told
  have C_LISTS : GlC K (ga 0) mg "LISTS" c_LISTS := glc_int (PySem.W.mg_of X Gn aK_LISTS)
  have ok'turn_told := ok_turn_told (P := l.prog) (w := w) (base := base) F'turn_told g B F_number_told C_LISTS
  have F_deed_row_told : FnG l.prog w K mg base (ga 0) 4 "deed_row_told" f_deed_row_told 2 := ⟨_, _, _, ok'deed_row_told, PySem.W.mg_of X Gn g_deed_row_told, k_deed_row_told, b'deed_row_told⟩
  have F_turn_told : FnG l.prog w K mg base (ga 0) 2 "turn_told" f_turn_told 1 := ⟨_, _, _, ok'turn_told, PySem.W.mg_of X Gn g_turn_told, k_turn_told, b'turn_told⟩
  have F_freed_told : FnG l.prog w K mg base (ga 0) 2 "freed_told" f_freed_told 1 := ⟨_, _, _, ok'freed_told, PySem.W.mg_of X Gn g_freed_told, k_freed_told, b'freed_told⟩
  have ok'row_told := ok_row_told (P := l.prog) (w := w) (base := base) F'row_told g B F_deed_row_told F_turn_told F_freed_told
  have F_row_told : FnG l.prog w K mg base (ga 0) 5 "row_told" f_row_told 1 := ⟨_, _, _, ok'row_told, PySem.W.mg_of X Gn g_row_told, k_row_told, b'row_told⟩
  have ok'log_read := ok_log_read (P := l.prog) (w := w) (base := base) F'log_read g B F_row_told
  have ok'deed_shown := ok_deed_shown (P := l.prog) (w := w) (base := base) F'deed_shown g B 
  have F_deed_shown : FnG l.prog w K mg base (ga 0) 1 "deed_shown" f_deed_shown 1 := ⟨_, _, _, ok'deed_shown, PySem.W.mg_of X Gn g_deed_shown, k_deed_shown, b'deed_shown⟩
  have ok'row_shown := ok_row_shown (P := l.prog) (w := w) (base := base) F'row_shown g B F_deed_shown
  have F_row_shown : FnG l.prog w K mg base (ga 0) 2 "row_shown" f_row_shown 1 := ⟨_, _, _, ok'row_shown, PySem.W.mg_of X Gn g_row_shown, k_row_shown, b'row_shown⟩
  have ok'log_shown := ok_log_shown (P := l.prog) (w := w) (base := base) F'log_shown g B F_row_shown
  have F_law_cell_at : FnG l.prog w K mg base (ga 0) 1 "_law_cell_at" f_law_cell_at 2 := ⟨_, _, _, ok'law_cell_at, PySem.W.mg_of X Gn g_law_cell_at, k_law_cell_at, b'law_cell_at⟩
  have F_law_log_row : FnG l.prog w K mg base (ga 0) 3 "_law_log_row" f_law_log_row 2 := ⟨_, _, _, ok'law_log_row, PySem.W.mg_of X Gn g_law_log_row, k_law_log_row, b'law_log_row⟩
  have F_law_log_text : FnG l.prog w K mg base (ga 0) 2 "_law_log_text" f_law_log_text 1 := ⟨_, _, _, ok'law_log_text, PySem.W.mg_of X Gn g_law_log_text, k_law_log_text, b'law_log_text⟩
  have F_log_shown : FnG l.prog w K mg base (ga 0) 3 "log_shown" f_log_shown 1 := ⟨_, _, _, ok'log_shown, PySem.W.mg_of X Gn g_log_shown, k_log_shown, b'log_shown⟩
  have F_log_read : FnG l.prog w K mg base (ga 0) 6 "log_read" f_log_read 1 := ⟨_, _, _, ok'log_read, PySem.W.mg_of X Gn g_log_read, k_log_read, b'log_read⟩
  have F_law_form : FnG l.prog w K mg base (ga 0) 2 "_law_form" f_law_form 1 := ⟨_, _, _, ok'law_form, PySem.W.mg_of X Gn g_law_form, k_law_form, b'law_form⟩
  have ok'law := ok_law (P := l.prog) (w := w) (base := base) F'law g B F_law_cell_at F_law_log_row F_law_log_text F_log_shown F_log_read F_law_form
  exact ok'law
theorem walk {l : PySem.W.OpenLaw} {q : Program} {loose : List Str} {XP : (Str → Option Value) → Heap → Prop} {YP : World → Heap → Prop} {d : DefRec} {K : Params → PySem.W.Frag} (hn : l.most = some 63) (hdf : d.params.defaults = [])
    (hlaw : ∀ ns : List Int, ns.length ≤ 63 → (∀ z ∈ ns, Builtin.Int.intBits z ≤ 1048576) → ∃ S', f_law [scr ns] [] = .ok (.bl true) S')
    (hY : ∀ (w : World) (h : Heap), YP w h → (K w.params).In h)
    (F : ∀ (w : World) (mg : Str → Option Value) (fa : Addr) (h : Heap), (K w.params).In h → h.Ns mainGlobals mg → mg d.name = some (.ref fa) →
      ∃ (fd : FuncData) (G : Ga), (∀ (s : Shared) (u : Value), BindsTo s fd ⟨[u], []⟩ [("_law_script", u)]) ∧ ∀ base : Heap, (K w.params).In base → base.Ns mainGlobals mg → FnOk l.prog w (K w.params) mg base (L2.CX l.prog w) 7 fa fd ["_law_script"] (SpM (K w.params) G f_law 1)) :
    PySem.W.WalkO q loose XP YP l.row.toRowW d [] (fun f vs => PySem.call f vs) :=
  L2.walk_ofB (n := 63) (k := 7) (x := "_law_script") (CX := fun w => L2.CX l.prog w) (sp := fun w vs H Q E => ∀ G : Ga, SpM (K w.params) G f_law 1 vs H Q E) hn (by decide) hdf ⟨rfl, by decide, by decide⟩ hY
    (fun w mg fa h h1 h2 h3 => let ⟨fd, G, a, b⟩ := F w mg fa h h1 h2 h3; ⟨fd, a, fun base h4 h5 => (b base h4 h5).imp fun _ _ _ _ z => z G⟩)
    (fun w H a ns hl hb hO hS G => sp_law hO hS (hlaw ns hl hb)) fun _ H s e s' ⟨_, _, _, _, _, _, _, _, _, _, _, _, z⟩ => z
end MP

set_option Elab.async false
set_option linter.all false
set_option maxRecDepth 100000
set_option maxHeartbeats 4000000
namespace MP
open PySem L2
local macro_rules | `(tactic| simp! only [$xs,*]) => `(tactic| simp -implicitDefEqProofs only [r_var, kVar_ok, r_c, r_op2, kOpA_ok, kOpA_exc, kOpB_ok, kOpB_exc, r_test, r_asB, r_and, r_or, r_not, kAnd_t, kAnd_f, kAnd_exc, kOr_t, kOr_f, kOr_exc, kNot_ok, kNot_exc, r_mand, r_mor, r_mnot, kMAnd_t, kMAnd_f, kMOr_t, kMOr_f, kMNot_ok, r_ife, kIfE_t, kIfE_f, kIfE_exc, r_anil, r_acons, kArg_ok, kArg_exc, kArgs_ok, kArgs_exc, r_tup, r_lst, r_fld, r_call, kCall_ok, kCall_exc, r_call0, noX_ok, r_meth, kM1_ok, kM1_exc, kM2_ok, kM2_stuck, kM3_ok, kM3_exc, r_meth0, kN1_ok, kN1_exc, kN2_ok, kN2_stuck, r_make, kMake_ok, mkEnd_ok, r_cb, r_isi, r_bm, kBM1_ok, kBM2_ok, r_bm0, kBM0_ok, r_alt, kAlt_ok, kAlt_exc, kAlt_stuck, r_sl, kSl1_ok, kSl2_ok, kSl3_ok, r_ptN, r_ptS, optI_ok, r_nil, r_seq, kSeq_nx, kSeq_rt, kSeq_xc, kSeq_bk, kSeq_ct, r_clr, kClr_nx, kClr_rt, kClr_xc, kClr_bk, kClr_ct, clr_nil, clr_cons, r_set, kSet_ok, kSet_exc, r_expr, kExpr_ok, kExpr_exc, r_ret, kRet_ok, kRet_exc, r_retN, r_if, kSIf_t, kSIf_f, kSIf_exc, r_brk, r_cont, r_for, kItA_ok, kIt_some, r_itL, r_itT, r_itS, r_itR1, r_itR2, r_itEn, r_asg, kAsg_ok, sTgO_some, tgM_nm, setAllM_nil, setAllM_cons, r_aug, kAug1_ok, kAug2_ok, r_fs, kFS1_ok, kFS2_ok, nxO_some, r_sl1, kSL1_ok, kSL2_ok, kSL3_ok, r_fnB, kFn_nx, kFn_rt, kFn_xc, r_lc, kLc_ok, r_yes, r_tgtp, kTg_ok, r_lstO, lstO_vl, lstO_cl, lstO_vd, kLst_ok, kLst_d, r_lsmO, lsmO_vl, r_items, r_itemsT, items_vl, items_cl, items_vd, r_self, kSelf_ok, kSelf_no, self_vo, self_vo_no, ne_eq, reduceCtorEq, not_false_eq_true, r_isiR, kIsi_ok, r_ty, kTy_l, ty_int, ty_bl, ty_str, ty_tup, ty_non, ty_vl, ty_cl, ty_vd, ty_vo, r_getF, kGetF_ok, getF_vo, kLk_ok, lk_yes, lk_ne, r_setF, kSetF_ok, r_itLl, kItL_ok, itL_vl, itL_cl, itT_ok, enu_vl, enu_cl, isL_vl, isL_cl, r_isL, kIsL_ok, r_lApp, kApp_ok, r_lExt, kExt_ok, ixO_ok, r_getI, getI_vl, getI_cl, r_getIT, r_setI, kSetI_ok, kStO_ok, newL_t, newL_f, r_mEx, r_fnZ1, r_fnZ2, r_scp, r_makeN, exit_ok, cld_app', cld_self', cld_nil, cld_set, cld_set0, low_lst, low_dct, low_ins, lowAll_nil, lowAll_cons, low_loc, low_pure, exK_none, exK_some, exO_some, ite_f, ite_t, take_app, take_self, fz_pure, pure_non, pure_bl, pure_int, pure_str, pure_vl, pure_cl, pure_vd, pure_vo, pure_tup, pure_loc, pureAll_nil, pureAll_cons, Bool.and_true, Bool.true_and, Bool.and_self, fz_loc, fz_old, Nat.le_refl, Nat.le_add_right, optAll_nil, optAll_pure, kFz_lst, kFz_ins, kFz_dct, r_keep, kKp_l, kKp_d, scp_nx, scp_ct, scp_rt, scp_xc, scpE_some, kCn_ok, fzr_nil, fzr_none, fzr_some, kSm_ok, lstD_ok, tupD_ok, Nat.reduceLeDiff, add_vv, add_vl, add_lv, add_ll, add_vc, add_cv, add_cl, add_lc, r_repD, kRD_ok, kRD2_ok, cList_vl, cList_cl, cList_tup, cList_loc, liL_ok, r_len, kLen_ok, kLen_d, len_tup, len_vl, len_cl, r_sl4, sl_vl, sl_cl, slO_ok, for_fix, for_lst, forX_nil, kFX_nx, kFY_nx, kFY_ct, kFY_bk, kFY_rt, kFY_xc, add_int, sub_int, addI_int, lt_int, le_int, gt_int, ge_int, eq_int, ne_int, eq_str, ne_str, eq_bl, ne_bl, is_non, isNot_non, isN_non, isN_int, isN_tup, isN_str, isN_loc, isN_bl, isN_vl, isN_vo, cInt_int, cInt_bl, cAbs_int, band_int, bor_int, at_0', at_1', at_2', at_3', at_4', at_5', at_6', at_7', at_8', at_9', at_10', at_11', at_12', at_13', r_dct, r_dctO, dctO_vd, dctO_vl, kDc_ok, kDc_l, r_dGet, key_i, key_s, lkO_ok, lkO_no, ixO_no, kSetI_d, nxO_none, r_dPutI, r_dPutS, kDP_ok, r_sdp, kSD1_ok, kSD2_ok, kSD3_ok, r_salt, kSAlt_nx, kSAlt_stuck, r_talt, kTAlt_ok, kTAlt_stuck, r_dIn, inO_in, inO_notin, inO_no, r_sort, r_listU, listO_l, listO_d, r_tix, r_lClear, kClear_ok, r_while, r_dpop, kDPop1_ok, kDPop2_i, kDPop3_ok, r_dctU, dctU_vd, kDU_ok, r_de, deO_ok, Option.isSome_some, List.isEmpty_nil, List.isEmpty_cons, Res.bind_ok, Res.bind_exc, Res.bind_stuck, List.map_cons, List.map_nil, List.length_cons, List.length_nil, List.replicate_succ, List.replicate_zero, List.cons_append, List.nil_append, List.append_nil, List.set_cons_succ, List.set_cons_zero, List.getElem?_cons_succ, List.getElem?_cons_zero, List.zip_cons_cons, List.zip_nil_left, List.take_succ_cons, List.take_zero, rg1, rg2, rg1n, rg2n, rngL_len, enuL_len, r_lcv, kLV_fix, kLV_lst, Int.reduceLE, Int.reduceLT, Int.reducePow, Int.reduceToNat, Nat.reduceLT, Nat.lt_add_one, Int.reduceAdd, Int.reduceSub, Int.reduceMul, Int.reduceNeg, Nat.reduceMul, Int.toNat_natCast, Nat.reduceAdd, Nat.reduceSub, Nat.zero_add, Nat.sub_self, Bool.not_true, Bool.not_false, eq_self_iff_true, if_true, if_false, kIso_no, kIso_vo, isoF_hit, isoF_miss, r_iso, r_isoR, forX_cons, r_eqL, r_eqR, r_neL, r_neR, kEqL_ok, kEqR_ok, kNeL_ok, kNeR_ok, ofS_inj, String.reduceEq, decide_true, decide_false, dat_ofS, dat_non, dat_int, dat_tup, dat_vl, datAll_nil, datAll_cons, dep_non, dep_int, dep_str, dep_tup, dep_vl, depAll_nil, depAll_cons, Nat.max_self, Nat.zero_max, Nat.max_zero, neR_refl, eqR_refl, it_NoneType_bool, it_NoneType_str, it_NoneType_int, it_NoneType_tuple, it_NoneType_list, it_NoneType_dict, it_bool_bool, it_bool_str, it_bool_int, it_bool_tuple, it_bool_list, it_bool_dict, it_int_bool, it_int_str, it_int_int, it_int_tuple, it_int_list, it_int_dict, it_str_bool, it_str_str, it_str_int, it_str_tuple, it_str_list, it_str_dict, it_tuple_bool, it_tuple_str, it_tuple_int, it_tuple_tuple, it_tuple_list, it_tuple_dict, it_list_bool, it_list_str, it_list_int, it_list_tuple, it_list_list, it_list_dict, it_dict_bool, it_dict_str, it_dict_int, it_dict_tuple, it_dict_list, it_dict_dict, pureAll_ints, r_slk, kSLkA_ok, kSLkB_ok, r_mlk, kMLkA_ok, kMLkB_ok, r_unlN, r_unlR, r_unlE, kUnlN_ok, kUnlR_ok, kUnlE_ok, r_frz, r_frzD, kFrz_ok, r_itK, r_itV, r_itI, itK_l, itV_l, itI_l, kItK_ok, for_ky, for_va, for_ii, r_dget1, kG1A_ok, kG1B_ok, getO_ok, r_dget2, kG2A_ok, kG2B_ok, kG2C_ok, r_dpop2, kP2A_ok, kP2B_ok, kP2C_ok, popF_ok, r_cDict, dictO_t, dictO_f, stepN_nx, stepN_ct, stepR_nx, stepR_ct, stepR_rt, r_sortP, r_raise_, r_try, kTry_nx, kTry_rt, kTry_xc, r_hGo, r_hGo0, kHd_t, kHd_f, noXS_nx, noXS_rt, xlk_yes, xlk_no, r_eqSS, r_op1, neg_int, inS1f, inS1t, inS2f, inS2t, inS3f, inS3t, inS4f, inS4t, inS5f, inS5t, inS6f, inS6t, Bool.false_or, Bool.or_false, Bool.true_or, Bool.or_true, r_isB, r_isNotB, r_isBN, r_isNotBN, beq_self_eq_true, r_rev, r_lr1, r_lr2, r_slT, kSlTA_ok, kSlTB_ok, kSlTC_ok, slT_ok, r_tryK, kTryK_nx, kTryK_rt, kTryK_xc, r_hGoK, r_hGoK0, kHdK_t, kHdK_f, r_hDo1, r_hDo2, r_hDo3, agS_nx, agS_rt, asS_nx, asS_rt, r_isX, r_row, $xs,*])
local macro_rules | `(tactic| dsimp! only [$xs,*]) => `(tactic| simp -implicitDefEqProofs only [r_var, kVar_ok, r_c, r_op2, kOpA_ok, kOpA_exc, kOpB_ok, kOpB_exc, r_test, r_asB, r_and, r_or, r_not, kAnd_t, kAnd_f, kAnd_exc, kOr_t, kOr_f, kOr_exc, kNot_ok, kNot_exc, r_mand, r_mor, r_mnot, kMAnd_t, kMAnd_f, kMOr_t, kMOr_f, kMNot_ok, r_ife, kIfE_t, kIfE_f, kIfE_exc, r_anil, r_acons, kArg_ok, kArg_exc, kArgs_ok, kArgs_exc, r_tup, r_lst, r_fld, r_call, kCall_ok, kCall_exc, r_call0, noX_ok, r_meth, kM1_ok, kM1_exc, kM2_ok, kM2_stuck, kM3_ok, kM3_exc, r_meth0, kN1_ok, kN1_exc, kN2_ok, kN2_stuck, r_make, kMake_ok, mkEnd_ok, r_cb, r_isi, r_bm, kBM1_ok, kBM2_ok, r_bm0, kBM0_ok, r_alt, kAlt_ok, kAlt_exc, kAlt_stuck, r_sl, kSl1_ok, kSl2_ok, kSl3_ok, r_ptN, r_ptS, optI_ok, r_nil, r_seq, kSeq_nx, kSeq_rt, kSeq_xc, kSeq_bk, kSeq_ct, r_clr, kClr_nx, kClr_rt, kClr_xc, kClr_bk, kClr_ct, clr_nil, clr_cons, r_set, kSet_ok, kSet_exc, r_expr, kExpr_ok, kExpr_exc, r_ret, kRet_ok, kRet_exc, r_retN, r_if, kSIf_t, kSIf_f, kSIf_exc, r_brk, r_cont, r_for, kItA_ok, kIt_some, r_itL, r_itT, r_itS, r_itR1, r_itR2, r_itEn, r_asg, kAsg_ok, sTgO_some, tgM_nm, setAllM_nil, setAllM_cons, r_aug, kAug1_ok, kAug2_ok, r_fs, kFS1_ok, kFS2_ok, nxO_some, r_sl1, kSL1_ok, kSL2_ok, kSL3_ok, r_fnB, kFn_nx, kFn_rt, kFn_xc, r_lc, kLc_ok, r_yes, r_tgtp, kTg_ok, r_lstO, lstO_vl, lstO_cl, lstO_vd, kLst_ok, kLst_d, r_lsmO, lsmO_vl, r_items, r_itemsT, items_vl, items_cl, items_vd, r_self, kSelf_ok, kSelf_no, self_vo, self_vo_no, ne_eq, reduceCtorEq, not_false_eq_true, r_isiR, kIsi_ok, r_ty, kTy_l, ty_int, ty_bl, ty_str, ty_tup, ty_non, ty_vl, ty_cl, ty_vd, ty_vo, r_getF, kGetF_ok, getF_vo, kLk_ok, lk_yes, lk_ne, r_setF, kSetF_ok, r_itLl, kItL_ok, itL_vl, itL_cl, itT_ok, enu_vl, enu_cl, isL_vl, isL_cl, r_isL, kIsL_ok, r_lApp, kApp_ok, r_lExt, kExt_ok, ixO_ok, r_getI, getI_vl, getI_cl, r_getIT, r_setI, kSetI_ok, kStO_ok, newL_t, newL_f, r_mEx, r_fnZ1, r_fnZ2, r_scp, r_makeN, exit_ok, cld_app', cld_self', cld_nil, cld_set, cld_set0, low_lst, low_dct, low_ins, lowAll_nil, lowAll_cons, low_loc, low_pure, exK_none, exK_some, exO_some, ite_f, ite_t, take_app, take_self, fz_pure, pure_non, pure_bl, pure_int, pure_str, pure_vl, pure_cl, pure_vd, pure_vo, pure_tup, pure_loc, pureAll_nil, pureAll_cons, Bool.and_true, Bool.true_and, Bool.and_self, fz_loc, fz_old, Nat.le_refl, Nat.le_add_right, optAll_nil, optAll_pure, kFz_lst, kFz_ins, kFz_dct, r_keep, kKp_l, kKp_d, scp_nx, scp_ct, scp_rt, scp_xc, scpE_some, kCn_ok, fzr_nil, fzr_none, fzr_some, kSm_ok, lstD_ok, tupD_ok, Nat.reduceLeDiff, add_vv, add_vl, add_lv, add_ll, add_vc, add_cv, add_cl, add_lc, r_repD, kRD_ok, kRD2_ok, cList_vl, cList_cl, cList_tup, cList_loc, liL_ok, r_len, kLen_ok, kLen_d, len_tup, len_vl, len_cl, r_sl4, sl_vl, sl_cl, slO_ok, for_fix, for_lst, forX_nil, kFX_nx, kFY_nx, kFY_ct, kFY_bk, kFY_rt, kFY_xc, add_int, sub_int, addI_int, lt_int, le_int, gt_int, ge_int, eq_int, ne_int, eq_str, ne_str, eq_bl, ne_bl, is_non, isNot_non, isN_non, isN_int, isN_tup, isN_str, isN_loc, isN_bl, isN_vl, isN_vo, cInt_int, cInt_bl, cAbs_int, band_int, bor_int, at_0', at_1', at_2', at_3', at_4', at_5', at_6', at_7', at_8', at_9', at_10', at_11', at_12', at_13', r_dct, r_dctO, dctO_vd, dctO_vl, kDc_ok, kDc_l, r_dGet, key_i, key_s, lkO_ok, lkO_no, ixO_no, kSetI_d, nxO_none, r_dPutI, r_dPutS, kDP_ok, r_sdp, kSD1_ok, kSD2_ok, kSD3_ok, r_salt, kSAlt_nx, kSAlt_stuck, r_talt, kTAlt_ok, kTAlt_stuck, r_dIn, inO_in, inO_notin, inO_no, r_sort, r_listU, listO_l, listO_d, r_tix, r_lClear, kClear_ok, r_while, r_dpop, kDPop1_ok, kDPop2_i, kDPop3_ok, r_dctU, dctU_vd, kDU_ok, r_de, deO_ok, Option.isSome_some, List.isEmpty_nil, List.isEmpty_cons, Res.bind_ok, Res.bind_exc, Res.bind_stuck, List.map_cons, List.map_nil, List.length_cons, List.length_nil, List.replicate_succ, List.replicate_zero, List.cons_append, List.nil_append, List.append_nil, List.set_cons_succ, List.set_cons_zero, List.getElem?_cons_succ, List.getElem?_cons_zero, List.zip_cons_cons, List.zip_nil_left, List.take_succ_cons, List.take_zero, rg1, rg2, rg1n, rg2n, rngL_len, enuL_len, r_lcv, kLV_fix, kLV_lst, Int.reduceLE, Int.reduceLT, Int.reducePow, Int.reduceToNat, Nat.reduceLT, Nat.lt_add_one, Int.reduceAdd, Int.reduceSub, Int.reduceMul, Int.reduceNeg, Nat.reduceMul, Int.toNat_natCast, Nat.reduceAdd, Nat.reduceSub, Nat.zero_add, Nat.sub_self, Bool.not_true, Bool.not_false, eq_self_iff_true, if_true, if_false, kIso_no, kIso_vo, isoF_hit, isoF_miss, r_iso, r_isoR, forX_cons, r_eqL, r_eqR, r_neL, r_neR, kEqL_ok, kEqR_ok, kNeL_ok, kNeR_ok, ofS_inj, String.reduceEq, decide_true, decide_false, dat_ofS, dat_non, dat_int, dat_tup, dat_vl, datAll_nil, datAll_cons, dep_non, dep_int, dep_str, dep_tup, dep_vl, depAll_nil, depAll_cons, Nat.max_self, Nat.zero_max, Nat.max_zero, neR_refl, eqR_refl, it_NoneType_bool, it_NoneType_str, it_NoneType_int, it_NoneType_tuple, it_NoneType_list, it_NoneType_dict, it_bool_bool, it_bool_str, it_bool_int, it_bool_tuple, it_bool_list, it_bool_dict, it_int_bool, it_int_str, it_int_int, it_int_tuple, it_int_list, it_int_dict, it_str_bool, it_str_str, it_str_int, it_str_tuple, it_str_list, it_str_dict, it_tuple_bool, it_tuple_str, it_tuple_int, it_tuple_tuple, it_tuple_list, it_tuple_dict, it_list_bool, it_list_str, it_list_int, it_list_tuple, it_list_list, it_list_dict, it_dict_bool, it_dict_str, it_dict_int, it_dict_tuple, it_dict_list, it_dict_dict, pureAll_ints, r_slk, kSLkA_ok, kSLkB_ok, r_mlk, kMLkA_ok, kMLkB_ok, r_unlN, r_unlR, r_unlE, kUnlN_ok, kUnlR_ok, kUnlE_ok, r_frz, r_frzD, kFrz_ok, r_itK, r_itV, r_itI, itK_l, itV_l, itI_l, kItK_ok, for_ky, for_va, for_ii, r_dget1, kG1A_ok, kG1B_ok, getO_ok, r_dget2, kG2A_ok, kG2B_ok, kG2C_ok, r_dpop2, kP2A_ok, kP2B_ok, kP2C_ok, popF_ok, r_cDict, dictO_t, dictO_f, stepN_nx, stepN_ct, stepR_nx, stepR_ct, stepR_rt, r_sortP, r_raise_, r_try, kTry_nx, kTry_rt, kTry_xc, r_hGo, r_hGo0, kHd_t, kHd_f, noXS_nx, noXS_rt, xlk_yes, xlk_no, r_eqSS, r_op1, neg_int, inS1f, inS1t, inS2f, inS2t, inS3f, inS3t, inS4f, inS4t, inS5f, inS5t, inS6f, inS6t, Bool.false_or, Bool.or_false, Bool.true_or, Bool.or_true, r_isB, r_isNotB, r_isBN, r_isNotBN, beq_self_eq_true, r_rev, r_lr1, r_lr2, r_slT, kSlTA_ok, kSlTB_ok, kSlTC_ok, slT_ok, r_tryK, kTryK_nx, kTryK_rt, kTryK_xc, r_hGoK, r_hGoK0, kHdK_t, kHdK_f, r_hDo1, r_hDo2, r_hDo3, agS_nx, agS_rt, asS_nx, asS_rt, r_isX, r_row, List.append_assoc, at_z, at_k, set_z, set_k, List.length_append, Nat.add_assoc, putFl, $xs,*])
/-! ### texts by their signs -/
abbrev tx (l : List Nat) : Str := ⟨l.toArray⟩
theorem tx_len {l : List Nat} : (tx l).length = l.length := SX.S_len l
theorem tx_eq {a b : List Nat} : (tx a = tx b) ↔ a = b := ⟨SX.S_inj, fun h => by rw [h]⟩
theorem tx_of (z : Str) : tx z.cps.toList = z := SX.S_tl z
theorem tx_deq {a b : List Nat} {h : Decidable (tx a = tx b)} : @decide (tx a = tx b) h = decide (a = b) := by
  by_cases e : a = b
  · rw [decide_eq_true e]; exact decide_eq_true (tx_eq.mpr e)
  · rw [decide_eq_false e]; exact decide_eq_false (fun z => e (tx_eq.mp z))
theorem tx_str {z : Str} {l : List Nat} (h : z.cps.toList = l) : z = tx l := by rw [← h]
theorem tx_cat (a b : List Nat) : tx a ++ tx b = tx (a ++ b) := SX.S_cat a b
def sg (c : Nat) : D := .str ⟨#[c]⟩
theorem sg_tx (c : Nat) : sg c = .str (tx [c]) := rfl
theorem signs_tx (l : List Nat) : signs (tx l) = l.map sg := rfl
theorem ne_deq {x y : Str} (h : x ≠ y) {i : Decidable (x = y)} : @decide (x = y) i = false := decide_eq_false h
theorem le_lineW {n : Nat} (h : n ≤ 16777216) : (n ≤ sizeLine) = True := by
  rw [sizeLine_eq]
  exact eq_true (by omega)
/-! steps -/
section
variable {f g : D → D → Sto → Res D} {a b c : MEx} {ρ : Rho} {S : Sto} {x y : D}
def kChA (r : Res D) (f g : D → D → Sto → Res D) (b c : MEx) (ρ : Rho) : Res D := r.bind fun x S1 => (b ρ S1).bind fun y S2 => (f x y S2).bind fun z S3 => match z with
  | .bl true => (c ρ S3).bind fun w S4 => g y w S4
  | .bl false => .ok (.bl false) S3
  | _ => .stuck
def kChB (r : Res D) (f g : D → D → Sto → Res D) (x : D) (c : MEx) (ρ : Rho) : Res D := r.bind fun y S2 => (f x y S2).bind fun z S3 => match z with
  | .bl true => (c ρ S3).bind fun w S4 => g y w S4
  | .bl false => .ok (.bl false) S3
  | _ => .stuck
def kChC (r : Res D) (g : D → D → Sto → Res D) (y : D) (c : MEx) (ρ : Rho) : Res D := r.bind fun z S3 => match z with
  | .bl true => (c ρ S3).bind fun w S4 => g y w S4
  | .bl false => .ok (.bl false) S3
  | _ => .stuck
theorem r_chn : mChn f g a b c ρ S = kChA (a ρ S) f g b c ρ := rfl
theorem kChA_ok : kChA (.ok x S) f g b c ρ = kChB (b ρ S) f g x c ρ := rfl
theorem kChB_ok : kChB (.ok y S) f g x c ρ = kChC (f x y S) g y c ρ := rfl
theorem kChC_t : kChC (.ok (.bl true) S) g y c ρ = kOpB (c ρ S) g y := rfl
theorem kChC_f : kChC (.ok (.bl false) S) g y c ρ = .ok (.bl false) S := rfl
end
theorem len_tx {l : List Nat} {S : Sto} (h : l.length ≤ 16777216) : cLen [.str (tx l)] S = .ok (.int l.length) S := by
  show (if (tx l).length ≤ sizeLine then Res.ok (D.int (tx l).length) S else .stuck) = _
  rw [tx_len, if_pos (by rw [le_lineW h]; trivial)]
theorem get_tx {l : List Nat} {S : Sto} {k c : Nat} (h : l.length ≤ 16777216) (e : l[k]? = some c) : getI (.str (tx l)) (.int (k : Nat)) S = .ok (sg c) S := by
  show (if (tx l).length ≤ sizeLine then (match L2.atI (tx l).cps.toList ((k : Nat) : Int) with
    | some c => Res.ok (D.str ⟨#[c]⟩) S
    | none => .stuck) else .stuck) = _
  have e' : L2.atI (tx l).cps.toList ((k : Nat) : Int) = some c := atI_nat e
  rw [tx_len, if_pos (by rw [le_lineW h]; trivial), e'] <;> rfl
theorem itS_tx {l : List Nat} {S : Sto} : itS (.str (tx l)) S = some ⟨fixGet (l.map sg), l.length + 1⟩ := by
  show some (MIt.mk (fixGet (signs (tx l))) ((tx l).length + 1)) = _
  rw [signs_tx, tx_len] <;> rfl
theorem inS_sg {neg : Bool} {c : Nat} {l : List Nat} {S : Sto} : inS1 neg (sg c) (.str (tx l)) S = .ok (.bl (if neg = true then !decide (c ∈ l) else decide (c ∈ l))) S := rfl
theorem eq_tx {a b : List Nat} {S : Sto} : eqR (.str (tx a)) (.str (tx b)) S = .ok (.bl (decide (a = b))) S := by rw [eq_str, tx_deq]
theorem ne_tx {a b : List Nat} {S : Sto} : neR (.str (tx a)) (.str (tx b)) S = .ok (.bl (!decide (a = b))) S := by rw [ne_str, tx_deq]
theorem app_tx {tr : Bool} {a b : List Nat} {S : Sto} (h : a.length + b.length ≤ 16777216) : addD tr (.str (tx a)) (.str (tx b)) S = .ok (.str (tx (a ++ b))) S := by
  show (if (tx a).length + (tx b).length ≤ sizeLine then Res.ok (D.str (tx a ++ tx b)) S else .stuck) = _
  rw [tx_len, tx_len, if_pos (by rw [le_lineW h]; trivial), tx_cat] <;> rfl
theorem strS_tx {a : Str} {S : Sto} : cStrS [.str a] S = .ok (.str a) S := rfl
theorem strS_num {n : Nat} {S : Sto} (h : n.log2 < 1920) : cStrS [.int (n : Int)] S = .ok (.str (tx (TL.numL n))) S := by
  show (if ((n : Nat) : Int).natAbs.log2 < 1920 then Res.ok (D.str (Str.ofString (toString ((n : Nat) : Int)))) S else .stuck) = _
  rw [Int.natAbs_natCast, if_pos h, SX.num_S] <;> rfl
theorem spl_tx {tr : Bool} {a b : List Nat} {S : Sto} (hb : b ≠ []) (hk : b.all (· < 256) = true) (h : a.length + 2 ≤ 16777216) : splD tr (.str (tx a)) [.str (tx b)] S = newL tr ((TL.spl b 0 [] a).map fun l => .str (tx l)) S := by
  have e1 : Txt.split (tx a) (tx b) = (TL.spl b 0 [] a).map tx := SX.split_S hb hk
  have e2 : ((tx b).length == 0) = false := by
    rw [tx_len]
    cases b with
    | nil => exact absurd rfl hb
    | cons _ _ => rfl
  show (if ((tx b).length == 0) = false ∧ (tx a).length + 2 ≤ sizeLine then newL tr ((Txt.split (tx a) (tx b)).map .str) S else .stuck) = _
  rw [if_pos ⟨e2, by rw [tx_len, le_lineW h]; trivial⟩, e1, List.map_map] <;> rfl
theorem strsOf_tx : ∀ ys : List (List Nat), strsOf (ys.map fun l => D.str (tx l)) = some (ys.map tx)
  | [] => rfl
  | y :: ys => by
    show (strsOf (ys.map fun l => D.str (tx l))).map (tx y :: ·) = _
    rw [strsOf_tx ys] <;> rfl
def lensum (ys : List (List Nat)) : Nat := (ys.map List.length).sum
theorem join_tx {b : List Nat} {e : D} {ys : List (List Nat)} {S : Sto} (he : items S e = some (ys.map fun l => D.str (tx l))) (h : lensum ys + ys.length * b.length ≤ 16777216) : joinD (.str (tx b)) [e] S = .ok (.str (tx (TL.joinL b ys))) S := by
  show (match items S e with
    | some xs => match strsOf xs with
      | some ys => if (ys.map Str.length).sum + ys.length * (tx b).length ≤ 16777216 then Res.ok (D.str (Txt.join (tx b) ys)) S else .stuck
      | none => .stuck
    | none => .stuck) = _
  rw [he]
  show (match strsOf (ys.map fun l => D.str (tx l)) with
      | some ys => if (ys.map Str.length).sum + ys.length * (tx b).length ≤ 16777216 then Res.ok (D.str (Txt.join (tx b) ys)) S else .stuck
      | none => .stuck) = _
  rw [strsOf_tx]
  have e1 : ((ys.map tx).map Str.length).sum + (ys.map tx).length * (tx b).length = lensum ys + ys.length * b.length := by
    rw [tx_len, List.length_map]
    unfold lensum
    have e2 : (ys.map tx).map (·.length) = ys.map List.length := SX.lens ys
    rw [← e2] <;> rfl
  show (if ((ys.map tx).map Str.length).sum + (ys.map tx).length * (tx b).length ≤ 16777216 then Res.ok (D.str (Txt.join (tx b) (ys.map tx))) S else .stuck) = _
  rw [e1, if_pos h]
  exact congrArg (fun z => Res.ok (D.str z) S) (SX.join_S b ys)
/-! ### the number that a text writes -/
def numT (l : List Nat) : Option Nat := if l ≠ [] ∧ l.length ≤ 60 ∧ ¬ (l.head? = some 48 ∧ l ≠ [48]) ∧ l.all (fun c => decide (48 ≤ c ∧ c ≤ 57)) = true then some (PySem.NumText.digitsVal l) else none
def oiD : Option Nat → D
  | none => .non
  | some n => .int (n : Int)
theorem fig_mem (c : Nat) : decide (c ∈ ([48, 49, 50, 51, 52, 53, 54, 55, 56, 57] : List Nat)) = decide (48 ≤ c ∧ c ≤ 57) := by
  refine decide_eq_decide.mpr ⟨fun h => ?_, fun h => ?_⟩
  · simp at h; omega
  · have : c = 48 ∨ c = 49 ∨ c = 50 ∨ c = 51 ∨ c = 52 ∨ c = 53 ∨ c = 54 ∨ c = 55 ∨ c = 56 ∨ c = 57 := by omega
    simp; omega
theorem c_fig : c_FIGURES = .str (tx [48, 49, 50, 51, 52, 53, 54, 55, 56, 57]) := by
  unfold c_FIGURES
  exact congrArg D.str (tx_str (by decide +kernel))
theorem number_told_spec {l : List Nat} {S : Sto} (h : l.length ≤ 16777216) : f_number_told [.str (tx l)] S = .ok (oiD (numT l)) S := by
  have z0 : ("0" : Str) = tx [48] := tx_str (by decide +kernel)
  unfold f_number_told b_number_told
  rw [c_fig, z0]
  cases l with
  | nil =>
    have e : numT [] = none := if_neg fun z => z.1 rfl
    rw [e]
    simp! only [r_chn, kChA_ok, kChB_ok, kChC_t, kChC_f, len_tx h, List.length_nil, show decide ((1 : Int) ≤ ((0 : Nat) : Int)) = false from rfl]
    rfl
  | cons c r =>
    obtain ⟨l, hl⟩ : ∃ l, l = c :: r := ⟨_, rfl⟩
    rw [← hl] at h ⊢
    have g0 : ∀ S, getI (.str (tx l)) (.int 0) S = .ok (sg c) S := fun S => get_tx (k := 0) h (by rw [hl]; rfl)
    have le1 : decide ((1 : Int) ≤ ((l.length : Nat) : Int)) = true := decide_eq_true (by rw [hl, List.length_cons]; omega)
    have eq0 : ∀ S, eqR (sg c) (.str (tx [48])) S = .ok (.bl (decide (c = 48))) S := fun S => by
      rw [sg_tx, eq_tx]
      exact congrArg (fun b => Res.ok (D.bl b) S) (decide_eq_decide.mpr ⟨fun z => (List.cons.inj z).1, fun z => by rw [z]⟩)
    have ne0 : ∀ S, neR (.str (tx l)) (.str (tx [48])) S = .ok (.bl (!decide (l = [48]))) S := fun S => ne_tx
    by_cases h60 : l.length ≤ 60
    · have le2 : decide (((l.length : Nat) : Int) ≤ (60 : Int)) = true := decide_eq_true (by omega)
      by_cases hz : c = 48 ∧ l ≠ [48]
      · have e : numT l = none := if_neg fun z => z.2.2.1 ⟨by rw [hl, List.head?_cons, hz.1], hz.2⟩
        rw [e]
        simp! only [r_chn, kChA_ok, kChB_ok, kChC_t, kChC_f, len_tx h, le1, le2, g0, eq0, ne0, decide_eq_true hz.1, decide_eq_false hz.2]
        rfl
      · have loop : ∀ cs : List Nat, forX (.nm 1) (sClr [1] (sIf (mTest (mOp2 (inS1 true) (mVar 1) (mC (.str (tx [48, 49, 50, 51, 52, 53, 54, 55, 56, 57]))))) (sRet (mC .non)) sNil)) (cs.map sg) [some (.str (tx l)), none] S =
            if cs.all (fun c => decide (48 ≤ c ∧ c ≤ 57)) = true then .nx [some (.str (tx l)), none] S else .rt .non S := by
          intro cs
          induction cs with
          | nil => rw [List.map_nil, forX_nil, if_pos List.all_nil]
          | cons d cs ih =>
            have ins : ∀ S, inS1 true (sg d) (.str (tx [48, 49, 50, 51, 52, 53, 54, 55, 56, 57])) S = .ok (.bl (!decide (48 ≤ d ∧ d ≤ 57))) S := fun S => by rw [inS_sg, if_pos rfl, fig_mem]
            rw [List.map_cons, List.all_cons]
            by_cases hd : 48 ≤ d ∧ d ≤ 57
            · rw [decide_eq_true hd, Bool.true_and]
              simp! only [ins, decide_eq_true hd, ih]
            · rw [decide_eq_false hd, Bool.false_and, if_neg Bool.false_ne_true]
              simp! only [ins, decide_eq_false hd]
        have cond : decide (c = 48) = true → (!decide (l = [48])) = false := fun h1 => by
          have : l = [48] := Classical.byContradiction fun z => hz ⟨of_decide_eq_true h1, z⟩
          rw [decide_eq_true this]; rfl
        have all_iff : l.all (fun c => decide (48 ≤ c ∧ c ≤ 57)) = true ↔ PySem.NumText.AllDigits l := by
          rw [List.all_eq_true]
          exact ⟨fun z d hd => of_decide_eq_true (z d hd), fun z d hd => decide_eq_true (z d hd)⟩
        have nz : ¬ (l.head? = some 48 ∧ l ≠ [48]) := fun z => hz ⟨by rw [hl] at z; simpa using z.1, z.2⟩
        have lp := loop l
        by_cases had : PySem.NumText.AllDigits l
        · rw [if_pos (all_iff.mpr had)] at lp
          have e : numT l = some (PySem.NumText.digitsVal l) := if_pos ⟨(by rw [hl]; exact List.cons_ne_nil _ _), h60, nz, all_iff.mpr had⟩
          have it : ∀ S, cIntT [.str (tx l)] S = .ok (.int (PySem.NumText.digitsVal l : Nat)) S := fun S => by
            have e1 : PySem.intText? (tx l) = some ((PySem.NumText.digitsVal l : Nat) : Int) := PySem.intText_digits (x := tx l) had ((by rw [hl]; exact List.cons_ne_nil _ _)) (by rw [tx_len]; omega)
            show (match PySem.intText? (tx l) with
              | some n => if (tx l).length ≤ 640 then Res.ok (D.int n) S else .stuck
              | none => .stuck) = _
            rw [e1]
            exact if_pos (by rw [tx_len]; omega)
          rw [e]
          cases h1 : decide (c = 48) with
          | true =>
            simp! only [r_chn, kChA_ok, kChB_ok, kChC_t, kChC_f, len_tx h, le1, le2, g0, eq0, ne0, h1, cond h1, itS_tx, for_fix, List.length_map, lp, it]
            rfl
          | false =>
            simp! only [r_chn, kChA_ok, kChB_ok, kChC_t, kChC_f, len_tx h, le1, le2, g0, eq0, ne0, h1, itS_tx, for_fix, List.length_map, lp, it]
            rfl
        · rw [if_neg (fun z => had (all_iff.mp z))] at lp
          have e : numT l = none := if_neg fun z => had (all_iff.mp z.2.2.2)
          rw [e]
          cases h1 : decide (c = 48) with
          | true =>
            simp! only [r_chn, kChA_ok, kChB_ok, kChC_t, kChC_f, len_tx h, le1, le2, g0, eq0, ne0, h1, cond h1, itS_tx, for_fix, List.length_map, lp]
            rfl
          | false =>
            simp! only [r_chn, kChA_ok, kChB_ok, kChC_t, kChC_f, len_tx h, le1, le2, g0, eq0, ne0, h1, itS_tx, for_fix, List.length_map, lp]
            rfl
    · have e : numT l = none := if_neg fun z => h60 z.2.1
      have le2 : decide (((l.length : Nat) : Int) ≤ (60 : Int)) = false := decide_eq_false (by omega)
      rw [e]
      simp! only [r_chn, kChA_ok, kChB_ok, kChC_t, kChC_f, len_tx h, le1, le2]
      rfl

set_option Elab.async false
set_option linter.all false
set_option maxRecDepth 100000
set_option maxHeartbeats 4000000
/-! ### a deed's text -/
theorem spl_ne (s : List Nat) : ∀ (l : List Nat) (k : Nat) (acc : List Nat), TL.spl s k acc l ≠ []
  | [], k, acc => by rw [TL.spl_nil]; exact List.cons_ne_nil _ _
  | c :: r, 0, acc => by
    cases h : TL.pre s (c :: r) with
    | true => rw [TL.spl_hit h]; exact List.cons_ne_nil _ _
    | false => rw [TL.spl_miss h]; exact spl_ne s r 0 _
  | c :: r, k + 1, acc => spl_ne s r k acc
theorem spl_len (s : List Nat) : ∀ (l : List Nat) (k : Nat) (acc : List Nat), (∀ p ∈ TL.spl s k acc l, p.length ≤ acc.length + l.length) ∧ (TL.spl s k acc l).length ≤ l.length + 1
  | [], k, acc => by
    rw [TL.spl_nil]
    exact ⟨fun p hp => by rw [List.mem_singleton.mp hp]; exact Nat.le_add_right _ _, Nat.le_refl _⟩
  | c :: r, 0, acc => by
    cases h : TL.pre s (c :: r) with
    | true =>
      rw [TL.spl_hit h]
      have ih := spl_len s r (s.length - 1) []
      refine ⟨fun p hp => ?_, ?_⟩
      · rcases List.mem_cons.mp hp with e | hp
        · rw [e]; exact Nat.le_add_right _ _
        · have := ih.1 p hp
          rw [List.length_nil] at this
          rw [List.length_cons]; omega
      · have := ih.2
        rw [List.length_cons, List.length_cons]; omega
    | false =>
      rw [TL.spl_miss h]
      have ih := spl_len s r 0 (acc ++ [c])
      refine ⟨fun p hp => ?_, ?_⟩
      · have := ih.1 p hp
        rw [List.length_append, List.length_cons, List.length_nil] at this
        rw [List.length_cons]; omega
      · have := ih.2
        rw [List.length_cons]; omega
  | c :: r, k + 1, acc => by
    have ih := spl_len s r k acc
    refine ⟨fun p hp => ?_, ?_⟩
    · have := ih.1 p hp
      rw [List.length_cons]; omega
    · have := ih.2
      show (TL.spl s k acc r).length ≤ _
      rw [List.length_cons]; omega
def odV : Option D → D
  | none => .non
  | some d => d
def allO : List (Option D) → Option (List D)
  | [] => some []
  | none :: _ => none
  | some d :: r => (allO r).map (d :: ·)
def rootT : List Nat → Option D
  | [c] => if 97 ≤ c ∧ c ≤ 122 then some (.str (tx [c])) else none
  | _ => none
theorem rootT_no : ∀ {w : List Nat}, w.length ≠ 1 → rootT w = none
  | [], _ => rfl
  | [_], h => absurd rfl h
  | _ :: _ :: _, _ => rfl
/-- the part of a deed that a text writes -/
def partT (f : Nat) (w : List Nat) : Option D :=
  if f = 82 then rootT w
  else match numT w with
    | some n => if f = 77 ∧ 8 < n then none else some (.int (n : Int))
    | none => none
theorem abc_mem (c : Nat) : decide (c ∈ ([97, 98, 99, 100, 101, 102, 103, 104, 105, 106, 107, 108, 109, 110, 111, 112, 113, 114, 115, 116, 117, 118, 119, 120, 121, 122] : List Nat)) = decide (97 ≤ c ∧ c ≤ 122) := by
  refine decide_eq_decide.mpr ⟨fun h => ?_, fun h => ?_⟩
  · simp at h; omega
  · simp; omega
theorem c_abc : c_LETTERS = .str (tx [97, 98, 99, 100, 101, 102, 103, 104, 105, 106, 107, 108, 109, 110, 111, 112, 113, 114, 115, 116, 117, 118, 119, 120, 121, 122]) := by
  unfold c_LETTERS
  exact congrArg D.str (tx_str (by decide +kernel))
theorem isN_oi {o : Option Nat} : (oiD o).isN = o.isNone := by cases o <;> rfl
theorem part_told_spec {f : Nat} {w : List Nat} {S : Sto} (h : w.length ≤ 16777216) : f_part_told [sg f, .str (tx w)] S = .ok (odV (partT f w)) S := by
  have zR : ("R" : Str) = tx [82] := tx_str (by decide +kernel)
  have zM : ("M" : Str) = tx [77] := tx_str (by decide +kernel)
  have eqR_ : ∀ S, eqR (sg f) (.str (tx [82])) S = .ok (.bl (decide (f = 82))) S := fun S => by
    rw [sg_tx, eq_tx]
    exact congrArg (fun b => Res.ok (D.bl b) S) (decide_eq_decide.mpr ⟨fun z => (List.cons.inj z).1, fun z => by rw [z]⟩)
  have eqM_ : ∀ S, eqR (sg f) (.str (tx [77])) S = .ok (.bl (decide (f = 77))) S := fun S => by
    rw [sg_tx, eq_tx]
    exact congrArg (fun b => Res.ok (D.bl b) S) (decide_eq_decide.mpr ⟨fun z => (List.cons.inj z).1, fun z => by rw [z]⟩)
  unfold f_part_told b_part_told partT
  rw [c_abc, zR, zM]
  by_cases hf : f = 82
  · rw [if_pos hf]
    by_cases h1 : w.length = 1
    · obtain ⟨c, rfl⟩ : ∃ c, w = [c] := by
        cases w with
        | nil => cases h1
        | cons c r =>
          cases r with
          | nil => exact ⟨c, rfl⟩
          | cons _ _ => simp at h1
      have ins : ∀ S, inS1 false (.str (tx [c])) (.str (tx [97, 98, 99, 100, 101, 102, 103, 104, 105, 106, 107, 108, 109, 110, 111, 112, 113, 114, 115, 116, 117, 118, 119, 120, 121, 122])) S = .ok (.bl (decide (97 ≤ c ∧ c ≤ 122))) S := fun S => by
        rw [← sg_tx, inS_sg, if_neg Bool.false_ne_true, abc_mem]
      have l1 : ∀ S, cLen [.str (tx [c])] S = .ok (.int 1) S := fun S => len_tx (l := [c]) h
      by_cases hc : 97 ≤ c ∧ c ≤ 122
      · rw [show rootT [c] = some (.str (tx [c])) from if_pos hc]
        simp! only [eqR_, decide_eq_true hf, l1, ins, decide_eq_true hc]
        rfl
      · rw [show rootT [c] = none from if_neg hc]
        simp! only [eqR_, decide_eq_true hf, l1, ins, decide_eq_false hc]
        rfl
    · have e := rootT_no h1
      have l1 : decide (((w.length : Nat) : Int) = 1) = false := decide_eq_false (by omega)
      rw [e]
      simp! only [eqR_, decide_eq_true hf, len_tx h, l1]
      rfl
  · rw [if_neg hf]
    have nt := fun S => number_told_spec (S := S) h
    unfold c_MOST_FIELDS
    cases hn : numT w with
    | none =>
      have nt' : ∀ S, f_number_told [.str (tx w)] S = .ok .non S := fun S => by rw [nt, hn]; rfl
      simp! only [eqR_, decide_eq_false hf, nt', isNot_non, isN_non]
      rfl
    | some n =>
      have nt' : ∀ S, f_number_told [.str (tx w)] S = .ok (.int (n : Int)) S := fun S => by rw [nt, hn]; rfl
      by_cases hM : f = 77
      · by_cases h8 : 8 < n
        · dsimp only
          rw [if_pos ⟨hM, h8⟩]
          have d8 : decide ((8 : Int) < (n : Int)) = true := decide_eq_true (by omega)
          simp! only [eqR_, decide_eq_false hf, nt', isNot_non, isN_non, eqM_, decide_eq_true hM, d8]
          rfl
        · dsimp only
          rw [if_neg (fun z => h8 z.2)]
          have d8 : decide ((8 : Int) < (n : Int)) = false := decide_eq_false (by omega)
          simp! only [eqR_, decide_eq_false hf, nt', isNot_non, isN_non, eqM_, decide_eq_true hM, d8]
          rfl
      · dsimp only
        rw [if_neg (fun z => hM z.1)]
        simp! only [eqR_, decide_eq_false hf, nt', isNot_non, isN_non, eqM_, decide_eq_false hM]
        rfl
theorem rootT_cases (w : List Nat) : rootT w = none ∨ ∃ c, w = [c] ∧ rootT w = some (.str (tx [c])) := by
  by_cases h1 : w.length = 1
  · cases w with
    | nil => cases h1
    | cons c r =>
      cases r with
      | cons _ _ => simp at h1
      | nil =>
        by_cases hc : 97 ≤ c ∧ c ≤ 122
        · exact .inr ⟨c, rfl, if_pos hc⟩
        · exact .inl (if_neg hc)
  · exact .inl (rootT_no h1)
theorem partT_cases (f : Nat) (w : List Nat) : partT f w = none ∨ (∃ c, partT f w = some (.str (tx [c]))) ∨ ∃ n : Nat, partT f w = some (.int (n : Int)) := by
  unfold partT
  by_cases hf : f = 82
  · rw [if_pos hf]
    rcases rootT_cases w with h | ⟨c, _, h⟩
    · exact .inl h
    · exact .inr (.inl ⟨c, h⟩)
  · rw [if_neg hf]
    cases numT w with
    | none => exact .inl rfl
    | some n =>
      dsimp only
      by_cases h : f = 77 ∧ 8 < n
      · rw [if_pos h]; exact .inl rfl
      · rw [if_neg h]; exact .inr (.inr ⟨n, rfl⟩)
theorem partT_pure {f : Nat} {w : List Nat} : (odV (partT f w)).pureB = true := by
  rcases partT_cases f w with h | ⟨c, h⟩ | ⟨n, h⟩ <;> rw [h] <;> rfl
theorem partT_isN {f : Nat} {w : List Nat} : (odV (partT f w)).isN = (partT f w).isNone := by
  rcases partT_cases f w with h | ⟨c, h⟩ | ⟨n, h⟩ <;> rw [h] <;> rfl
def FT : List (List Nat × List Nat) := [([110, 117, 109], [82, 78]), ([109, 97, 107, 101], [82, 77]), ([119, 101, 97, 107], [82, 82]), ([112, 97, 105, 114], [82, 82, 82]), ([119, 111, 114, 100, 115], [82, 78]), ([112, 117, 116], [82, 78, 82]), ([103, 101, 116], [82, 82, 78]),
  ([108, 111, 111, 107], [82, 82]), ([102, 105, 110, 100], [82, 82, 82]), ([99, 111, 112, 121], [82, 82]), ([100, 114, 111, 112], [82]), ([116, 101, 108, 108], [82]), ([115, 97, 109, 101], [82, 82]), ([104, 101, 97, 114], [82])]
def formT (w : List Nat) : List Nat := ((FT.find? fun p => decide (p.1 = w)).map (·.2)).getD []
theorem c_forms : c_FORMS = FT.map fun p => (tx p.1, tx p.2) := by
  have e1 : ∀ {a b : Str} {l m : List Nat}, a.cps.toList = l → b.cps.toList = m → (a, b) = (tx l, tx m) := fun h1 h2 => by rw [tx_str h1, tx_str h2]
  unfold c_FORMS FT
  simp only [List.map_cons, List.map_nil]
  repeat' (first | rfl | exact e1 (by decide +kernel) (by decide +kernel) | congr 1)
theorem find_tx (w : List Nat) : ∀ t : List (List Nat × List Nat), ((t.map fun p => (tx p.1, tx p.2)).find? fun p => decide (p.1 = tx w)).map Prod.snd = ((t.find? fun p => decide (p.1 = w)).map (·.2)).map tx
  | [] => rfl
  | (a, b) :: t => by
    rw [List.map_cons, List.find?_cons, List.find?_cons]
    have e : decide (tx a = tx w) = decide (a = w) := tx_deq
    dsimp only
    rw [e]
    cases decide (a = w) with
    | true => rfl
    | false => exact find_tx w t
theorem get_form {w : List Nat} {S : Sto} : kGetS c_FORMS (.str (tx w)) (.str (tx [])) S = .ok (.str (tx (formT w))) S := by
  have e : kvS c_FORMS (tx w) = ((FT.find? fun p => decide (p.1 = w)).map (·.2)).map tx := by
    unfold kvS
    rw [c_forms, find_tx]
  show (match kvS c_FORMS (tx w) with
    | some s => Res.ok (D.str s) S
    | none => .ok (.str (tx [])) S) = _
  rw [e]
  unfold formT
  cases (FT.find? fun p => decide (p.1 = w)).map (·.2) <;> rfl
def deedT (l : List Nat) : Option (List D) := match TL.spl [32] 0 [] l with
  | [] => none
  | w :: ws => if formT w = [] ∨ ws.length ≠ (formT w).length then none else (allO (List.zipWith partT (formT w) ws)).map (.str (tx w) :: ·)
def otD : Option (List D) → D
  | none => .non
  | some ds => .tup ds
theorem any_vl {bs : List Bool} {S : Sto} : cAny [.vl (bs.map D.bl)] S = .ok (.bl (bs.any id)) S := by
  show (match blsOf (bs.map D.bl) with
    | some bs => Res.ok (D.bl (bs.any id)) S
    | none => .stuck) = _
  rw [blsOf_map]
theorem allO_any : ∀ xs : List (Option D), (allO xs).isNone = xs.any (·.isNone)
  | [] => rfl
  | none :: r => rfl
  | some d :: r => by
    show ((allO r).map (d :: ·)).isNone = _
    rw [Option.isNone_map, allO_any r] <;> rfl
theorem allO_some : ∀ {xs : List (Option D)} {ds : List D}, allO xs = some ds → xs.map odV = ds
  | [], ds, h => by cases h; rfl
  | none :: r, ds, h => by cases h
  | some d :: r, ds, h => by
    obtain ⟨es, e1, rfl⟩ := Option.map_eq_some_iff.mp h
    rw [List.map_cons, allO_some e1] <;> rfl
theorem lc_pureL {it : MIt} {t : Tg} {me : MEx} {ρ : Rho} {m : Nat} {S0 : Sto} (xs : List D) (f : D → D)
    (hget : ∀ i acc, i ≤ xs.length → it.get i (S0 ++ [.lst acc]) = some xs[i]?)
    (hstep : ∀ x, x ∈ xs → ∀ acc, ∃ ρ1, tgM t x ρ (S0 ++ [.lst acc]) = some ρ1 ∧ me ρ1 (S0 ++ [.lst acc]) = .ok (f x) (S0 ++ [.lst acc]))
    (hl : xs.length ≤ 100000) (hm : xs.length < m) : lcGo it t tYesM me ρ S0.length m 0 (S0 ++ [.lst []]) = .ok (.loc S0.length) (S0 ++ [.lst (xs.map f)]) := by
  refine lcI rfl xs (fun i S => S = S0 ++ [.lst ((xs.take i).map f)]) (fun r => r = .ok (.loc S0.length) (S0 ++ [.lst (xs.map f)])) hm rfl ?_ ?_ ?_
  · rintro i S hi rfl
    exact hget i _ hi
  · rintro i x S e rfl
    obtain ⟨ρ1, e1, e3⟩ := hstep x (List.mem_of_getElem? e) ((xs.take i).map f)
    have e4 : xs.take (i + 1) = xs.take i ++ [x] := by rw [List.take_add_one, e]; rfl
    refine ⟨ρ1, e1, true, _, rfl, (fun hb => nomatch hb), fun _ => ?_⟩
    refine ⟨f x, _, (xs.take i).map f, e3, get_last _ _, ?_, ?_⟩
    · rw [lt_line]
      · trivial
      · rw [List.length_map]
        exact Nat.le_trans (by rw [List.length_take]; exact Nat.min_le_right _ _) hl
    · rw [set_last, e4, List.map_append]
      rfl
  · rintro S rfl
    rw [List.take_length]
theorem zTL_get {fs : List Nat} {ws : List D} (hl : fs.length = ws.length) (i : Nat) (S : Sto) (hi : i ≤ fs.length) : zTL (tx fs) ws i S = some ((List.zipWith (fun c d => D.tup [sg c, d]) fs ws)[i]?) := by
  have e0 : (signs (tx fs))[i]? = fs[i]?.map sg := by rw [signs_tx, List.getElem?_map]
  unfold zTL
  rw [e0, List.getElem?_zipWith]
  cases e1 : fs[i]? with
  | none =>
    have sz : (tx fs).cps.size = fs.length := tx_len
    show (if i ≤ (tx fs).cps.size ∧ i ≤ ws.length then some none else none) = _
    rw [sz, ← hl, if_pos ⟨hi, hi⟩]
  | some c =>
    have hi : i < fs.length := (List.getElem?_eq_some_iff.mp e1).1
    obtain ⟨d, e2⟩ : ∃ d, ws[i]? = some d := ⟨_, List.getElem?_eq_getElem (by omega)⟩
    rw [e2] <;> rfl
def zF (x : D) : D := match x with
  | .tup [.str f, .str y] => odV (match f.cps.toList with | [c] => partT c y.cps.toList | _ => none)
  | _ => .non
theorem deed_told_spec {l : List Nat} {S : Sto} (h : l.length ≤ 99998) : f_deed_told [.str (tx l)] S = .ok (otD (deedT l)) S := by
  have z1 : (" " : Str) = tx [32] := tx_str (by decide +kernel)
  have z2 : ("" : Str) = tx [] := tx_str (by decide +kernel)
  have gsp := spl_len [32] l 0 []
  have gne := spl_ne [32] l 0 []
  have e1 : ∀ S, splD false (.str (tx l)) [.str (tx [32])] S = newL false ((TL.spl [32] 0 [] l).map fun l => D.str (tx l)) S := fun S => spl_tx (List.cons_ne_nil _ _) (by decide) (by omega)
  unfold f_deed_told b_deed_told deedT
  rw [z1, z2]
  have iss : ∀ S, isStr (.str (tx l)) S = true := fun _ => rfl
  cases hw : TL.spl [32] 0 [] l with
  | nil => exact absurd hw gne
  | cons w ws =>
    rw [hw] at e1 gsp
    rw [List.length_cons] at gsp
    obtain ⟨W, hW⟩ : ∃ W, W = ((w :: ws).map fun l => D.str (tx l)) := ⟨_, rfl⟩
    rw [← hW] at e1
    have W0 : atI W 0 = some (.str (tx w)) := by rw [hW]; exact atI_nat (j := 0) rfl
    have Wl : W.length = ws.length + 1 := by rw [hW, List.length_map, List.length_cons]
    have W1 : cutD W (some 1) none = ws.map fun l => D.str (tx l) := by
      have := cut_from (xs := W) (a := 1)
      rw [hW] at this ⊢
      exact this
    have W2 : cutD W none (some 1) = [D.str (tx w)] := by
      have := cut_to (xs := W) (a := 1)
      rw [hW] at this ⊢
      exact this
    have nl : ∀ (tr) (xs : List D) S, tr = false → newL tr xs S = newV xs S := fun tr xs S e => by rw [e]; rfl
    have pw : pureAll W = true := by
      rw [hW]
      exact pureAll_mem.mpr fun x hx => by
        obtain ⟨y, _, rfl⟩ := List.mem_map.mp hx
        rfl
    have pws : pureAll (ws.map fun l => D.str (tx l)) = true := pureAll_mem.mpr fun x hx => by
        obtain ⟨y, _, rfl⟩ := List.mem_map.mp hx
        rfl
    have pw1 : pureAll [D.str (tx w)] = true := rfl
    have fl : (formT w).length ≤ 16777216 := by
      unfold formT
      cases hfd : FT.find? fun p => decide (p.1 = w) with
      | none => exact Nat.zero_le _
      | some p =>
        have : ∀ q ∈ FT, q.2.length ≤ 16777216 := by decide
        exact this p (List.mem_of_find?_eq_some hfd)
    have gf := fun S => get_form (w := w) (S := S)
    have lf := fun S => len_tx (S := S) fl
    dsimp only
    by_cases c1 : formT w = []
    · rw [if_pos (Or.inl c1)]
      simp! only [e1, iss, pw, W0, gf, tx_deq, decide_eq_true c1]
      rfl
    · have d1 : decide (formT w = []) = false := decide_eq_false c1
      by_cases c2 : ws.length = (formT w).length
      · rw [if_neg (fun z => z.elim c1 (fun z => z c2))]
        have d2 : (!decide (((ws.length + 1 : Nat) : Int) = (((formT w).length : Nat) : Int) + 1)) = false := by rw [decide_eq_true (by omega)]; rfl
        obtain ⟨F, hF⟩ : ∃ F, F = formT w := ⟨_, rfl⟩
        rw [← hF] at gf d1 d2 c2 lf ⊢
        -- the parts
        obtain ⟨Z, hZ⟩ : ∃ Z, Z = List.zipWith (fun c d => D.tup [sg c, d]) F (ws.map fun l => D.str (tx l)) := ⟨_, rfl⟩
        have Zl : Z.length = ws.length := by rw [hZ, List.length_zipWith, List.length_map, c2, Nat.min_self]
        have hP : Z.map (zF) = (List.zipWith partT F ws).map odV := by
          rw [hZ, List.map_zipWith, List.zipWith_map_right, List.map_zipWith] <;> rfl
        obtain ⟨P, hPd⟩ : ∃ P, P = (List.zipWith partT F ws).map odV := ⟨_, rfl⟩
        rw [← hPd] at hP
        have Pl : P.length = ws.length := by rw [hPd, List.length_map, List.length_zipWith, c2, Nat.min_self]
        have pP : pureAll P = true := by
          rw [hPd]
          refine pureAll_mem.mpr fun x hx => ?_
          obtain ⟨o, ho, rfl⟩ := List.mem_map.mp hx
          obtain ⟨i, hi, rfl⟩ := List.mem_iff_getElem.mp ho
          rw [List.getElem_zipWith]
          exact partT_pure
        have lc : ∀ a b c S, kLV S (kIt (itZTL [.str (tx F), .vl (ws.map fun l => D.str (tx l))] S) S) (.tp [4, 5]) tYesM (mCall 2 f_part_told (aCons (mVar 4) (aCons (mVar 5) aNil))) [4, 5] [some (a), some (b), some (c), none, none, none, none] = .ok (.vl P) S := fun a b c S => by
          have ee : itZTL [.str (tx F), .vl (ws.map fun l => D.str (tx l))] S = some ⟨zTL (tx F) (ws.map fun l => D.str (tx l)), (tx F).length + (ws.map fun l => D.str (tx l)).length + 1⟩ := rfl
          rw [ee, kIt_some, kLV_it]
          dsimp only
          have hgl : F.length = (ws.map fun l => D.str (tx l)).length := by rw [List.length_map, c2]
          have hZm : ∀ x ∈ Z, ∃ c w, w ∈ ws ∧ x = .tup [sg c, .str (tx w)] := fun x hx => by
            rw [hZ] at hx
            obtain ⟨i, hi, rfl⟩ := List.mem_iff_getElem.mp hx
            rw [List.getElem_zipWith, List.getElem_map]
            exact ⟨_, _, List.getElem_mem _, rfl⟩
          have main := lc_pureL (it := ⟨zTL (tx F) (ws.map fun l => D.str (tx l)), (tx F).length + (ws.map fun l => D.str (tx l)).length + 1⟩) (t := .tp [4, 5]) (me := mCall 2 f_part_told (aCons (mVar 4) (aCons (mVar 5) aNil))) (ρ := clr [4, 5] [some (a), some (b), some (c), none, none, none, none]) (m := (tx F).length + (ws.map fun l => D.str (tx l)).length + 1) (S0 := S) Z zF
            (fun i acc hi => by
              show zTL (tx F) (ws.map fun l => D.str (tx l)) i (S ++ [.lst acc]) = _
              rw [zTL_get hgl i _ (by rw [Zl] at hi; rw [List.length_map] at hgl; omega), ← hZ])
            (fun x hx acc => by
              obtain ⟨c, w, hwm, rfl⟩ := hZm x hx
              have pt := fun S => part_told_spec (f := c) (w := w) (S := S) (by
                have := gsp.1 w (List.mem_cons_of_mem _ hwm)
                rw [List.length_nil] at this
                omega)
              refine ⟨_, tgM_tp r_itemsT rfl, ?_⟩
              simp! only [pt]
              rfl) (by rw [Zl]; have := gsp.2; omega) (by rw [Zl, List.length_map]; omega)
          rw [hP] at main
          rw [main, exit_app, ite_f, exK_none, fz_loc0, get_last, kFz_lst pP, exO_some, take_app]
        have anyP : ∀ a b c d S, lcF P (P.length + 1) (.nm 6) tYesM (mOp2 isD (mVar 6) (mC .non)) [some (a), some (b), some (c), some (d), none, none, none] S = .ok (.vl ((P.map D.isN).map D.bl)) S := fun a b c d S => by
          have := lcF_map (t := .nm 6) (me := mOp2 isD (mVar 6) (mC .non)) (ρ := [some (a), some (b), some (c), some (d), none, none, none]) (S := S) (xs := P) (k := P.length + 1) (fun x => D.bl x.isN) (fun x hx acc => by
            refine ⟨_, tgM_nm, ?_⟩
            simp! only [is_non]) rfl (by rw [Pl]; have := gsp.2; omega) (pureAll_mem.mpr fun x hx => by
              obtain ⟨y, _, rfl⟩ := List.mem_map.mp hx
              rfl)
          rw [this, List.map_map] <;> rfl
        have ha : (P.map D.isN).any id = (allO (List.zipWith partT F ws)).isNone := by
          rw [allO_any, hPd, List.map_map, List.any_map, List.any_eq, List.any_eq]
          refine decide_eq_decide.mpr (exists_congr fun o => and_congr_right fun ho => ?_)
          obtain ⟨i, hi, rfl⟩ := List.mem_iff_getElem.mp ho
          rw [List.getElem_zipWith]
          show (odV (partT _ _)).isN = true ↔ _
          rw [partT_isN]
        have r_itZ : ∀ (ms : MAr) ρ S, miZTL ms ρ S = kItA (ms ρ S) itZTL := fun _ _ _ => rfl
        have anyV := fun S => any_vl (bs := P.map D.isN) (S := S)
        have ctp : ∀ xs S, cTuple [.vl xs] S = .ok (.tup xs) S := fun _ _ => rfl
        cases hd : allO (List.zipWith partT F ws) with
        | none =>
          rw [hd] at ha
          have ha' : (P.map D.isN).any id = true := ha
          simp! only [e1, iss, pw, W0, gf, tx_deq, d1, len_vl, Wl, lf, d2, W1, pws, r_itZ, lc, anyP, anyV, ha']
          rfl
        | some ds =>
          rw [hd] at ha
          have ha' : (P.map D.isN).any id = false := ha
          have hds : P = ds := by rw [hPd]; exact allO_some hd
          have cat : ∀ S, catL false (some [D.str (tx w)]) (some P) S = .ok (.vl (D.str (tx w) :: P)) S := fun S => by
            rw [catL_ok (by rw [List.length_cons, List.length_nil, Pl]; have := gsp.2; rw [le_line (by omega)]; trivial)]
            rw [newL_f (by rw [List.cons_append, List.nil_append, pureAll_cons, pP] <;> rfl)] <;> rfl
          simp! only [e1, iss, pw, W0, gf, tx_deq, d1, len_vl, Wl, lf, d2, W1, pws, r_itZ, lc, anyP, anyV, ha', W2, pw1, cat, ctp]
          rw [hds]
          rfl
      · rw [if_pos (Or.inr c2)]
        have d2 : (!decide (((ws.length + 1 : Nat) : Int) = (((formT w).length : Nat) : Int) + 1)) = true := by rw [decide_eq_false (by omega)]; rfl
        simp! only [e1, iss, pw, W0, gf, tx_deq, d1, len_vl, Wl, lf, d2]
        rfl

set_option Elab.async false
set_option linter.all false
set_option maxRecDepth 100000
set_option maxHeartbeats 4000000
/-! ### deeds as they are written -/
inductive Pt where
  | L (c : Nat) | N (n : Nat)
def Pt.d : Pt → D
  | .L c => .str (tx [c])
  | .N n => .int (n : Int)
def Pt.t : Pt → List Nat
  | .L c => [c]
  | .N n => TL.numL n
/-- no number has more than sixty figures -/
def Pt.Fit (f : Nat) : Pt → Prop
  | .L c => f = 82 ∧ 97 ≤ c ∧ c ≤ 122
  | .N n => f ≠ 82 ∧ n < 10 ^ 60 ∧ (f = 77 → n ≤ 8)
structure Dt where
  w : List Nat
  ps : List Pt
def Dt.ds (x : Dt) : List D := .str (tx x.w) :: x.ps.map Pt.d
def Dt.d (x : Dt) : D := .tup x.ds
def Dt.t (x : Dt) : List Nat := TL.joinL [32] (x.w :: x.ps.map Pt.t)
def FitL : List Nat → List Pt → Prop
  | [], [] => True
  | f :: fs, p :: ps => p.Fit f ∧ FitL fs ps
  | _, _ => False
def Dt.Ok (x : Dt) : Prop := formT x.w ≠ [] ∧ FitL (formT x.w) x.ps
theorem numL_head : ∀ (k n : Nat), n < k → 1 ≤ n → (TL.numL n).head? ≠ some 48 := by
  intro k
  induction k with
  | zero => intro n h; omega
  | succ k ih =>
    intro n hn h1 hh
    by_cases h : n < 10
    · rw [TL.numL_lt h] at hh
      have : 48 + n = 48 := by simpa using hh
      omega
    · rw [TL.numL_step (by omega)] at hh
      refine ih (n / 10) (by omega) (by omega) ?_
      cases e : TL.numL (n / 10) with
      | nil => exact absurd e (TL.numL_ne _)
      | cons c r =>
        rw [e] at hh
        exact hh
theorem numT_num {n : Nat} (h : n < 10 ^ 60) : numT (TL.numL n) = some n := by
  have c : TL.numL n ≠ [] ∧ (TL.numL n).length ≤ 60 ∧ ¬ ((TL.numL n).head? = some 48 ∧ TL.numL n ≠ [48]) ∧ (TL.numL n).all (fun c => decide (48 ≤ c ∧ c ≤ 57)) = true := by
    refine ⟨TL.numL_ne n, TL.numL_len (by decide) h, fun z => ?_, List.all_eq_true.mpr fun c hc => decide_eq_true (TL.numL_digits n c hc)⟩
    by_cases h0 : 1 ≤ n
    · exact numL_head (n + 1) n (by omega) h0 z.1
    · have : n = 0 := by omega
      subst this
      exact z.2 (TL.numL_lt (by decide))
  unfold numT
  rw [if_pos c, TL.numL_val]
theorem num_log {n : Nat} (h : n < 10 ^ 60) : n.log2 < 1920 := by
  have : n < 2 ^ 1000 := Nat.lt_of_lt_of_le h (by decide +kernel)
  by_cases hz : n = 0
  · rw [hz]; decide
  · have := (Nat.log2_lt hz).mpr this
    omega
theorem partT_fit {f : Nat} {p : Pt} (h : p.Fit f) : partT f p.t = some p.d := by
  unfold partT
  cases p with
  | L c =>
    obtain ⟨h1, h2, h3⟩ := h
    rw [if_pos h1]
    exact if_pos ⟨h2, h3⟩
  | N n =>
    obtain ⟨h1, h2, h3⟩ := h
    rw [if_neg h1]
    show (match numT (TL.numL n) with
      | some n => if f = 77 ∧ 8 < n then none else some (D.int (n : Int))
      | none => none) = _
    rw [numT_num h2]
    exact if_neg (fun z => by have := h3 z.1; omega)
theorem fit_len : ∀ {fs : List Nat} {ps : List Pt}, FitL fs ps → ps.length = fs.length
  | [], [], _ => rfl
  | f :: fs, p :: ps, h => by rw [List.length_cons, List.length_cons, fit_len h.2]
  | [], _ :: _, h => h.elim
  | _ :: _, [], h => h.elim
theorem fit_all : ∀ {fs : List Nat} {ps : List Pt}, FitL fs ps → allO (List.zipWith partT fs (ps.map Pt.t)) = some (ps.map Pt.d)
  | [], [], _ => rfl
  | f :: fs, p :: ps, h => by
    rw [List.map_cons, List.zipWith_cons_cons, partT_fit h.1]
    show (allO _).map (p.d :: ·) = _
    rw [fit_all h.2] <;> rfl
  | [], _ :: _, h => h.elim
  | _ :: _, [], h => h.elim
theorem fit_mem : ∀ {fs : List Nat} {ps : List Pt}, FitL fs ps → ∀ p ∈ ps, ∃ f, p.Fit f
  | [], [], _, p, hp => nomatch hp
  | f :: fs, q :: ps, h, p, hp => by
    rcases List.mem_cons.mp hp with e | hp
    · rw [e]; exact ⟨f, h.1⟩
    · exact fit_mem h.2 p hp
  | [], _ :: _, h, _, _ => h.elim
  | _ :: _, [], h, _, _ => h.elim
/-- signs of a deed's parts: letters and figures -/
theorem pt_signs {p : Pt} {f : Nat} (h : p.Fit f) : ∀ c ∈ p.t, (48 ≤ c ∧ c ≤ 57) ∨ (97 ≤ c ∧ c ≤ 122) := by
  intro c hc
  cases p with
  | L d => rw [List.mem_singleton.mp hc]; exact .inr h.2
  | N n => exact .inl (TL.numL_digits n c hc)
theorem pt_len {p : Pt} {f : Nat} (h : p.Fit f) : p.t.length ≤ 60 := by
  cases p with
  | L d => exact Nat.le_of_ble_eq_true rfl
  | N n => exact TL.numL_len (by decide) h.2.1
theorem form_in {w : List Nat} (h : formT w ≠ []) : ∃ p ∈ FT, p.1 = w ∧ formT w = p.2 := by
  unfold formT at h ⊢
  cases e : FT.find? fun p => decide (p.1 = w) with
  | none => rw [e] at h; exact absurd rfl h
  | some p => exact ⟨p, List.mem_of_find?_eq_some e, by simpa using List.find?_some e, rfl⟩
theorem FT_signs : ∀ p ∈ FT, (∀ c ∈ p.1, 97 ≤ c ∧ c ≤ 122) ∧ p.1.length ≤ 5 ∧ p.2.length ≤ 3 := by decide
theorem Dt.Ok.signs {x : Dt} (h : x.Ok) : ∀ p ∈ x.w :: x.ps.map Pt.t, (∀ c ∈ p, (48 ≤ c ∧ c ≤ 57) ∨ (97 ≤ c ∧ c ≤ 122)) ∧ p.length ≤ 60 := by
  intro p hp
  rcases List.mem_cons.mp hp with e | hp
  · obtain ⟨q, hq, e1, _⟩ := form_in h.1
    have := FT_signs q hq
    rw [e1] at this
    rw [e]
    exact ⟨fun c hc => .inr (this.1 c hc), by omega⟩
  · obtain ⟨y, hy, rfl⟩ := List.mem_map.mp hp
    obtain ⟨f, hf⟩ := fit_mem h.2 y hy
    exact ⟨pt_signs hf, pt_len hf⟩
theorem Dt.Ok.few {x : Dt} (h : x.Ok) : x.ps.length ≤ 3 := by
  obtain ⟨q, hq, e1, e2⟩ := form_in h.1
  rw [fit_len h.2, e2]
  exact (FT_signs q hq).2.2
theorem Dt.Ok.words {x : Dt} (h : x.Ok) : TL.spl [32] 0 [] x.t = x.w :: x.ps.map Pt.t :=
  TL.spl_join (List.cons_ne_nil _ _) fun p hp hm => by
    have := (h.signs p hp).1 32 hm
    omega
theorem deedT_text {x : Dt} (h : x.Ok) : deedT x.t = some x.ds := by
  unfold deedT
  rw [h.words]
  dsimp only
  rw [if_neg (fun z => z.elim h.1 (fun z => z (by rw [List.length_map, fit_len h.2]))), fit_all h.2] <;> rfl
theorem joinL_flat (s : List Nat) : ∀ (ts : List (List Nat)) (w : List Nat), TL.joinL s (w :: ts) = w ++ (ts.map (s ++ ·)).flatten
  | [], w => by simp [TL.joinL]
  | t :: ts, w => by
    show w ++ (s ++ TL.joinL s (t :: ts)) = _
    rw [joinL_flat s ts t, List.map_cons, List.flatten_cons, List.append_assoc]
theorem lensum_le {k : Nat} : ∀ {ts : List (List Nat)}, (∀ t ∈ ts, t.length ≤ k) → lensum ts ≤ ts.length * k
  | [], _ => by simp [lensum]
  | t :: ts, h => by
    have := lensum_le fun x hx => h x (List.mem_cons_of_mem _ hx)
    have h0 := h t List.mem_cons_self
    unfold lensum at this ⊢
    rw [List.map_cons, List.sum_cons, List.length_cons, Nat.add_mul]
    omega
theorem joinL_len (s : List Nat) : ∀ ts : List (List Nat), (TL.joinL s ts).length ≤ lensum ts + ts.length * s.length
  | [] => Nat.zero_le _
  | [t] => by simp [TL.joinL, lensum]
  | t :: u :: ts => by
    have := joinL_len s (u :: ts)
    show (t ++ (s ++ TL.joinL s (u :: ts))).length ≤ _
    rw [List.length_append, List.length_append]
    unfold lensum at this ⊢
    rw [List.map_cons, List.sum_cons, List.length_cons, Nat.add_mul]
    omega
theorem Dt.Ok.len {x : Dt} (h : x.Ok) : x.t.length ≤ 244 := by
  have h1 := joinL_len [32] (x.w :: x.ps.map Pt.t)
  have h2 := lensum_le fun t ht => (h.signs t ht).2
  have h3 := h.few
  rw [List.length_cons, List.length_map] at h1 h2
  have : ([32] : List Nat).length = 1 := rfl
  rw [this] at h1
  show (TL.joinL [32] (x.w :: x.ps.map Pt.t)).length ≤ 244
  omega
theorem Dt.Ok.sig {x : Dt} (h : x.Ok) : ∀ c ∈ x.t, c = 32 ∨ (48 ≤ c ∧ c ≤ 57) ∨ (97 ≤ c ∧ c ≤ 122) := by
  intro c hc
  have hc' : c ∈ TL.joinL [32] (x.w :: x.ps.map Pt.t) := hc
  rw [joinL_flat, List.mem_append] at hc'
  rcases hc' with hc | hc
  · exact .inr ((h.signs _ List.mem_cons_self).1 c hc)
  · obtain ⟨t, ht, hc⟩ := List.mem_flatten.mp hc
    obtain ⟨u, hu, rfl⟩ := List.mem_map.mp ht
    rcases List.mem_append.mp hc with hc | hc
    · exact .inl (List.mem_singleton.mp hc)
    · exact .inr ((h.signs u (List.mem_cons_of_mem _ hu)).1 c hc)
theorem Pt.pure (p : Pt) : p.d.pureB = true := by cases p <;> rfl
theorem tx_dat {l : List Nat} (h : ∀ c ∈ l, c < 1114112) : D.dat (.str (tx l)) = true := by
  simp only [D.dat, PyData.canLay0]
  unfold PyData.strOk
  rw [List.all_toArray, List.all_eq_true]
  intro x hx
  exact decide_eq_true (h x hx)
theorem Pt.dat {p : Pt} {f : Nat} (h : p.Fit f) : p.d.dat = true := by
  cases p with
  | N n => rfl
  | L c => exact tx_dat fun d hd => by rw [List.mem_singleton.mp hd]; have := h.2.2; omega
theorem Pt.dep (p : Pt) : p.d.dep = 0 := by cases p <;> rfl
theorem datAll_map {α : Type} {f : α → D} : ∀ {l : List α}, (∀ x ∈ l, (f x).dat = true) → datAll (l.map f) = true
  | [], _ => rfl
  | x :: l, h => by
    rw [List.map_cons]
    show ((f x).dat && datAll (l.map f)) = true
    rw [h x List.mem_cons_self, datAll_map fun y hy => h y (List.mem_cons_of_mem _ hy)] <;> rfl
theorem depAll_map {α : Type} {f : α → D} {k : Nat} : ∀ {l : List α}, (∀ x ∈ l, (f x).dep ≤ k) → depAll (l.map f) ≤ k
  | [], _ => Nat.zero_le _
  | x :: l, h => by
    rw [List.map_cons]
    show max (f x).dep (depAll (l.map f)) ≤ k
    exact Nat.max_le.mpr ⟨h x List.mem_cons_self, depAll_map fun y hy => h y (List.mem_cons_of_mem _ hy)⟩
theorem Dt.Ok.dat {x : Dt} (h : x.Ok) : x.d.dat = true := by
  show datAll (.str (tx x.w) :: x.ps.map Pt.d) = true
  show (D.dat (.str (tx x.w)) && datAll (x.ps.map Pt.d)) = true
  rw [tx_dat (fun c hc => by have := (h.signs _ List.mem_cons_self).1 c hc; omega), datAll_map fun p hp => by
    obtain ⟨f, hf⟩ := fit_mem h.2 p hp
    exact Pt.dat hf] <;> rfl
theorem Dt.Ok.dep {x : Dt} (h : x.Ok) : x.d.dep ≤ 1 := by
  show depAll (.str (tx x.w) :: x.ps.map Pt.d) + 1 ≤ 1
  have : depAll (.str (tx x.w) :: x.ps.map Pt.d) ≤ 0 := Nat.max_le.mpr ⟨Nat.le_refl _, depAll_map fun p _ => Nat.le_of_eq (Pt.dep p)⟩
  omega
theorem Dt.Ok.pure {x : Dt} (h : x.Ok) : x.d.pureB = true := dat_pure h.dat

set_option Elab.async false
set_option linter.all false
set_option maxRecDepth 100000
set_option maxHeartbeats 4000000
/-! ### values of fields -/
def vNo : D := .tup [.str "nothing"]
def vNum (i : Int) : D := .tup [.str "number", .int i]
def vTh (i : Int) : D := .tup [.str "thing", .int i]
inductive IsVal : D → Prop
  | no : IsVal vNo
  | num (i : Int) : IsVal (vNum i)
  | th (i : Int) : IsVal (vTh i)
theorem lay_s1 : PyData.canLay0 (.str "nothing") = true := by simp only [PyData.canLay0]; decide +kernel
theorem lay_s2 : PyData.canLay0 (.str "number") = true := by simp only [PyData.canLay0]; decide +kernel
theorem lay_s3 : PyData.canLay0 (.str "thing") = true := by simp only [PyData.canLay0]; decide +kernel
theorem IsVal.dat {x : D} (h : IsVal x) : x.dat = true := by
  cases h <;> simp only [vNo, vNum, vTh, D.dat, datAll, lay_s1, lay_s2, lay_s3, Bool.and_self]
theorem IsVal.dep {x : D} (h : IsVal x) : x.dep = 1 := by cases h <;> simp [vNo, vNum, vTh, D.dep, depAll]
theorem IsVal.pu {x : D} (h : IsVal x) : x.pureB = true := dat_pure h.dat
def isTh (x : D) : Bool := match x with
  | .tup (.str s :: _) => decide (s = "thing")
  | _ => false
theorem s_nt : decide (("nothing" : Str) = "thing") = false := by decide +kernel
theorem s_mt : decide (("number" : Str) = "thing") = false := by decide +kernel
theorem s_tt : decide (("thing" : Str) = "thing") = true := by decide +kernel
theorem isTh_no : isTh vNo = false := s_nt
theorem isTh_num (i : Int) : isTh (vNum i) = false := s_mt
theorem isTh_th (i : Int) : isTh (vTh i) = true := s_tt
/-- what the value names -/
def nmOf (x : D) : List D := match x with
  | .tup [.str s, .int i] => if s = ("thing" : Str) then [.int i] else []
  | _ => []
theorem nm_no : nmOf vNo = [] := rfl
theorem nm_num (i : Int) : nmOf (vNum i) = [] := by
  unfold nmOf vNum
  exact if_neg (of_decide_eq_false s_mt)
theorem nm_th (i : Int) : nmOf (vTh i) = [.int i] := by
  unfold nmOf vTh
  exact if_pos rfl
theorem p60 : ∃ B : Int, 0 < B ∧ ∀ S, intOp powI (.int 10) (.int 60) S = .ok (.int B) S :=
  ⟨(10 : Int) ^ (60 : Int).toNat, by decide +kernel, fun S => pow_int ⟨by decide, by decide, by decide⟩⟩
def idx2 (x : D) : D := match x with
  | .tup [_, v] => v
  | _ => .non
/-! ### what is drawn: so many numbers below so many sizes -/
def Drn (sz ds : List Int) : Prop := ds.length = sz.length ∧ ∀ (i : Nat) s d, sz[i]? = some s → ds[i]? = some d → 0 ≤ d ∧ d < s
theorem law_drawn_spec {sz : List Int} (hsz : ∀ s ∈ sz, 0 < s ∧ s.natAbs < 2 ^ 2000) (hn : sz.length ≤ 1000) {c : Int} (hb : c.natAbs < 2 ^ 1048576) (fr : Bool) :
    ∃ (ds : List Int) (r : Int), Drn sz ds ∧ 0 ≤ r ∧ r.natAbs < 2 ^ 1048576 ∧ ∀ S, f_law_drawn [.int c, .vl (sz.map .int), .bl fr] S = .ok (.vl (ds.map .int ++ [.int r])) S := by
  have loop : ∀ (ss pre : List Int), (∀ s ∈ ss, 0 < s ∧ s.natAbs < 2 ^ 2000) → pre.length + ss.length ≤ 1000 → ∀ n : Int, 0 ≤ n → n.natAbs < 2 ^ 1048576 → ∃ ds : List Int, Drn ss ds ∧ ∃ n' : Int, (0 ≤ n' ∧ n'.natAbs < 2 ^ 1048576) ∧ ∀ S : Sto,
      forX (.nm 6) (sSeq (sExpr (mBM isL lAppend (mVar 5) (aCons (mOp2 (intOp modI) (mVar 3) (mVar 6)) aNil))) (sClr [6] (sSet 3 (mOp2 (intOp fdivI) (mVar 3) (mVar 6))))) (ss.map .int)
        [some (.int c), some (.vl (sz.map .int)), some (.bl fr), some (.int n), none, some (.loc S.length), none] (S ++ [.lst (pre.map .int)]) =
      .nx [some (.int c), some (.vl (sz.map .int)), some (.bl fr), some (.int n'), none, some (.loc S.length), none] (S ++ [.lst ((pre ++ ds).map .int)]) := by
    intro ss
    induction ss with
    | nil =>
      intro pre _ _ n n0 nb
      exact ⟨[], ⟨rfl, fun i s d h => by simp at h⟩, n, ⟨n0, nb⟩, fun S => by rw [List.map_nil, forX_nil, List.append_nil]⟩
    | cons s ss ih =>
      intro pre h1 h2 n n0 nb
      obtain ⟨s0, s1⟩ := h1 s List.mem_cons_self
      rw [List.length_cons] at h2
      have lapp : (pre.length < sizeLine) = True := lt_line (by omega)
      have ms := fun i S => mod_int (S := S) (i := i) (j := s) s0
      have dv := fun i S => fdiv_int (S := S) (i := i) (j := s) s0 (log2_lt s0 s1 (by decide))
      have ap : ∀ d : Int, pre.map D.int ++ [D.int d] = (pre ++ [d]).map .int := fun d => by simp
      have gl : ∀ S : Sto, (S ++ [O.lst (pre.map .int)])[S.length]? = some (.lst (pre.map .int)) := fun S => get_last _ _
      have q0 : 0 ≤ n / s := Int.ediv_nonneg n0 (by omega)
      have qle : n / s ≤ n := Int.ediv_le_self _ n0
      obtain ⟨ds, hd, n', hn', hl⟩ := ih (pre ++ [n % s]) (fun x hx => h1 x (List.mem_cons_of_mem _ hx)) (by simp; omega) (n / s) q0 (Nat.lt_of_le_of_lt (by omega) nb)
      refine ⟨n % s :: ds, ⟨by simp [hd.1], fun i a b ha hb => ?_⟩, n', hn', fun S => ?_⟩
      · cases i with
        | zero => simp at ha hb; subst ha hb; exact ⟨Int.emod_nonneg _ (by omega), Int.emod_lt_of_pos _ s0⟩
        | succ i => exact hd.2 i a b (by simpa using ha) (by simpa using hb)
      · rw [List.map_cons, forX_cons, tgM_nm, sTgO_some, kFX_nx]
        simp only [List.set_cons_succ, List.set_cons_zero]
        simp! only [gl, ms, dv, List.length_map, lapp, set_last, ap, hl S, List.append_assoc]
  have hp : ∀ ds : List Int, pureAll (ds.map D.int) = true := fun _ => pureAll_ints
  have cat : ∀ (ds : List Int) (r : Int), ds.length = sz.length → ∀ S, catL false (some (ds.map D.int)) (some [D.int r]) S = .ok (.vl (ds.map .int ++ [.int r])) S := fun ds r hl S => by
    rw [catL_ok (by rw [List.length_map, List.length_cons, List.length_nil, le_line (by omega)]; trivial)]
    exact newL_f (by rw [pureAll_append, hp] <;> rfl)
  unfold f_law_drawn b_law_drawn
  cases fr with
  | true =>
    obtain ⟨ds, hd, n', hn', hl⟩ := loop sz [] hsz (by simpa using hn) (if c < 0 then -c else c) (by split <;> omega) (Nat.lt_of_le_of_lt (by split <;> omega) hb)
    have ct := cat ds n' hd.1
    rw [List.map_nil, List.nil_append] at hl
    refine ⟨ds, n', hd, hn'.1, hn'.2, fun S => ?_⟩
    dsimp! only [hl, hp, ct]
  | false =>
    obtain ⟨x, hx⟩ : ∃ x, x = (c + 7) * 69621 % 2147483629 := ⟨_, rfl⟩
    have x0 : 0 ≤ x := by rw [hx]; exact Int.emod_nonneg _ (by decide)
    have x1 : x < 2147483629 := by rw [hx]; exact Int.emod_lt_of_pos _ (by decide)
    have xb : x.natAbs < 2 ^ 31 := by omega
    have q1 := fun S => mul_int (S := S) (tr := false) (i := c + 7) (j := 69621) (a := 1048577) (b := 17) (by
      have h8 : (c + 7).natAbs ≤ c.natAbs + 7 := by omega
      have : (2 : Nat) ^ 1048577 = 2 ^ 1048576 * 2 := Nat.pow_succ ..
      have h16 : (7 : Nat) < 2 ^ 1048576 := Nat.lt_of_lt_of_le (show 7 < 2 ^ 3 by decide) (Nat.pow_le_pow_right (by decide) (by decide))
      generalize (2 : Nat) ^ 1048576 = Z at *
      generalize (2 : Nat) ^ 1048577 = Z' at *
      omega) (by decide) (by decide)
    have q2 := fun S => mod_int (S := S) (i := (c + 7) * 69621) (j := 2147483629) (by decide)
    rw [← hx] at q2
    have pw : ∀ {a b : Int} {p q : Nat}, a.natAbs < 2 ^ p → b.natAbs < 2 ^ q → (a * b).natAbs < 2 ^ (p + q) := fun {a b p q} ha hb => by
      rw [Int.natAbs_mul, Nat.pow_add]
      exact Nat.mul_lt_mul'' ha hb
    have b2 := pw xb xb
    have b3 := pw b2 xb
    have b4 := pw b3 xb
    have b5 := pw b4 xb
    have m2 := fun S => mul_int (S := S) (tr := false) xb xb (by decide)
    have m3 := fun S => mul_int (S := S) (tr := false) b2 xb (by decide)
    have m4 := fun S => mul_int (S := S) (tr := false) b3 xb (by decide)
    have m5 := fun S => mul_int (S := S) (tr := false) b4 xb (by decide)
    have m6 := fun S => mul_int (S := S) (tr := false) (j := 982451653) (b := 30) b5 (by decide) (by decide)
    have b6 := pw (b := 982451653) (q := 30) b5 (by decide)
    obtain ⟨y, hy⟩ : ∃ y, y = x * x * x * x * x * 982451653 := ⟨_, rfl⟩
    rw [← hy] at m6 b6
    have m7 := fun S => mul_int (S := S) (tr := false) (i := 2147483647) (a := 31) (by decide) b6 (by decide)
    have m8 := fun S => mul_int (S := S) (tr := false) (i := c) (j := 1583458089) (a := 1048576) (b := 31) hb (by decide) (by decide)
    have m9 := fun S => mod_int (S := S) (i := c * 1583458089) (j := 2147483647) (by decide)
    have y0 : 0 ≤ y := by
      rw [hy]
      exact Int.mul_nonneg (Int.mul_nonneg (Int.mul_nonneg (Int.mul_nonneg (Int.mul_nonneg x0 x0) x0) x0) x0) (by decide)
    have u0 : 0 ≤ c * 1583458089 % 2147483647 := Int.emod_nonneg _ (by decide)
    have u1 : c * 1583458089 % 2147483647 < 2147483647 := Int.emod_lt_of_pos _ (by decide)
    have yb : (c * 1583458089 % 2147483647 + 2147483647 * y).natAbs < 2 ^ 1048576 := by
      have h1 : y.natAbs < 2 ^ 185 := b6
      have h2 : (c * 1583458089 % 2147483647 + 2147483647 * y).natAbs < 2 ^ 217 := by
        have e185 : (2 : Nat) ^ 185 = 49039857307708443467467104868809893875799651909875269632 := by decide +kernel
        have e217 : (2 : Nat) ^ 217 = 210624583337114373395836055367340864637790190801098222508621955072 := by decide +kernel
        rw [e185] at h1
        rw [e217]
        omega
      exact Nat.lt_of_lt_of_le h2 (Nat.pow_le_pow_right (by decide) (by decide))
    obtain ⟨ds, hd, n', hn', hl⟩ := loop sz [] hsz (by simpa using hn) (c * 1583458089 % 2147483647 + 2147483647 * y) (by omega) yb
    have ct := cat ds n' hd.1
    rw [List.map_nil, List.nil_append] at hl
    refine ⟨ds, n', hd, hn'.1, hn'.2, fun S => ?_⟩
    dsimp! only [q1, q2, m2, m3, m4, m5, m6, m7, m8, m9, hl, hp, ct]

set_option Elab.async false
set_option linter.all false
set_option maxRecDepth 100000
set_option maxHeartbeats 4000000
/-! ### a deed by a number -/
def wdA : List Str := ["num", "make", "weak", "pair", "words", "put", "get", "look", "find", "copy", "drop", "tell", "same", "hear"]
theorem getI_letter {i : Int} (h0 : 0 ≤ i) (h1 : i < 26) : ∃ c : Nat, (97 ≤ c ∧ c ≤ 122) ∧ ∀ S, getI (.str "abcdefghijklmnopqrstuvwxyz") (.int i) S = .ok (.str (tx [c])) S := by
  have e : ("abcdefghijklmnopqrstuvwxyz" : Str) = tx [97, 98, 99, 100, 101, 102, 103, 104, 105, 106, 107, 108, 109, 110, 111, 112, 113, 114, 115, 116, 117, 118, 119, 120, 121, 122] := tx_str (by decide +kernel)
  obtain ⟨k, rfl⟩ : ∃ k : Nat, i = (k : Int) := ⟨i.toNat, by omega⟩
  obtain ⟨l, hl⟩ : ∃ l : List Nat, l = [97, 98, 99, 100, 101, 102, 103, 104, 105, 106, 107, 108, 109, 110, 111, 112, 113, 114, 115, 116, 117, 118, 119, 120, 121, 122] := ⟨_, rfl⟩
  have hk : k < l.length := by rw [hl]; show k < 26; omega
  have hm : 97 ≤ l[k] ∧ l[k] ≤ 122 := by
    have : ∀ c ∈ l, 97 ≤ c ∧ c ≤ 122 := by rw [hl]; decide
    exact this _ (List.getElem_mem hk)
  refine ⟨l[k], hm, fun S => ?_⟩
  rw [e, ← hl, get_tx (by rw [hl]; decide) (List.getElem?_eq_getElem hk)] <;> rfl
theorem drn7 {a b c d e f g : Int} {ds : List Int} (h : Drn [a, b, c, d, e, f, g] ds) : ∃ x0 x1 x2 x3 x4 x5 x6, ds = [x0, x1, x2, x3, x4, x5, x6] ∧ (0 ≤ x0 ∧ x0 < a) ∧ (0 ≤ x1 ∧ x1 < b) ∧ (0 ≤ x2 ∧ x2 < c) ∧ (0 ≤ x3 ∧ x3 < d) ∧ (0 ≤ x4 ∧ x4 < e) ∧ (0 ≤ x5 ∧ x5 < f) ∧ (0 ≤ x6 ∧ x6 < g) := by
  obtain ⟨hl, h⟩ := h
  match ds, hl with
  | [x0, x1, x2, x3, x4, x5, x6], _ => exact ⟨x0, x1, x2, x3, x4, x5, x6, rfl, h 0 _ _ rfl rfl, h 1 _ _ rfl rfl, h 2 _ _ rfl rfl, h 3 _ _ rfl rfl, h 4 _ _ rfl rfl, h 5 _ _ rfl rfl, h 6 _ _ rfl rfl⟩
def Dt.mk' (w : List Nat) (ps : List Pt) : Dt := ⟨w, ps⟩
theorem law_deed_by_spec {c : Int} (hb : c.natAbs < 2 ^ 1048576) (fr : Bool) : ∃ x : Dt, x.Ok ∧ ∀ S, f_law_deed_by [.int c, .bl fr] S = .ok x.d S := by
  obtain ⟨B, B0, hB⟩ := p60
  have hBe : B = 10 ^ 60 := by
    have := hB []
    rw [pow_int ⟨by decide, by decide, by decide⟩] at this
    injection this with this
    injection this with this
    exact this.symm
  have B1 : B.natAbs < 2 ^ 2000 := by rw [hBe]; decide +kernel
  obtain ⟨ds, r8, hd, _, _, edr⟩ := law_drawn_spec (sz := [14, 26, 26, 26, 9, 4, B]) (by
    intro s hs
    simp only [List.mem_cons, List.not_mem_nil, or_false] at hs
    rcases hs with rfl | rfl | rfl | rfl | rfl | rfl | rfl
    all_goals first | exact ⟨by decide, by decide⟩ | exact ⟨B0, B1⟩) (show (7 : Nat) ≤ 1000 by decide) hb fr
  obtain ⟨x0, x1, x2, x3, x4, x5, x6, rfl, h0, h1, h2, h3, h4, h5, h6⟩ := drn7 hd
  obtain ⟨c1, hc1, g1⟩ := getI_letter h1.1 h1.2
  obtain ⟨c2, hc2, g2⟩ := getI_letter h2.1 h2.2
  obtain ⟨c3, hc3, g3⟩ := getI_letter h3.1 h3.2
  obtain ⟨LT, hLT⟩ : ∃ LT : Str, LT = "abcdefghijklmnopqrstuvwxyz" := ⟨_, rfl⟩
  rw [← hLT] at g1 g2 g3
  obtain ⟨a, rfl⟩ : ∃ a : Nat, x4 = (a : Int) := ⟨x4.toNat, by omega⟩
  have ha : a ≤ 8 := by omega
  obtain ⟨n, hn, en⟩ : ∃ n : Nat, n < 10 ^ 60 ∧ ∀ S, kLk (atI [D.int (a : Int), .int x6] (if decide (x5 = 0) then 1 else 0)) S = .ok (.int (n : Int)) S := by
    cases decide (x5 = 0) with
    | true =>
      obtain ⟨n, rfl⟩ : ∃ n : Nat, x6 = (n : Int) := ⟨x6.toNat, by omega⟩
      refine ⟨n, ?_, fun S => rfl⟩
      have h7 := h6.2
      rw [hBe] at h7
      have : ((10 : Int) ^ 60) = ((10 ^ 60 : Nat) : Int) := by decide +kernel
      omega
    | false => exact ⟨a, Nat.lt_of_le_of_lt ha (by decide +kernel), fun S => rfl⟩
  obtain ⟨k, hk, rfl⟩ : ∃ k : Nat, k < 14 ∧ x0 = (k : Int) := ⟨x0.toNat, by omega, by omega⟩
  have wd : ∀ S, kLk (atI (wdA.map D.str) (k : Int)) S = .ok (.str (wdA.getD k "")) S := fun S => by
    rw [atI_nat (v := .str (wdA.getD k "")) (by
      rw [List.getElem?_map, List.getElem?_eq_getElem (by exact hk), List.getD_eq_getElem?_getD, List.getElem?_eq_getElem (by exact hk)]; rfl)]
    rfl
  have hwA : [D.str "num", .str "make", .str "weak", .str "pair", .str "words", .str "put", .str "get", .str "look", .str "find", .str "copy", .str "drop", .str "tell", .str "same", .str "hear"] = wdA.map .str := rfl
  obtain ⟨word, hword⟩ : ∃ word, word = wdA.getD k "" := ⟨_, rfl⟩
  rw [← hword] at wd
  have L1 : Pt.Fit 82 (.L c1) := ⟨rfl, hc1⟩
  have L2 : Pt.Fit 82 (.L c2) := ⟨rfl, hc2⟩
  have L3 : Pt.Fit 82 (.L c3) := ⟨rfl, hc3⟩
  have N1 : Pt.Fit 78 (.N n) := ⟨by decide, hn, fun z => absurd z (by decide)⟩
  have N2 : Pt.Fit 77 (.N a) := ⟨by decide, Nat.lt_of_le_of_lt ha (by decide +kernel), fun _ => ha⟩
  have eqd : ∀ {z : Str} {w : List Nat} {ps : List Pt}, z.cps.toList = w → Dt.d ⟨w, ps⟩ = .tup (.str z :: ps.map Pt.d) := fun h => by rw [tx_str h]; rfl
  have cases : ∃ x : Dt, x.Ok ∧ ((word = "make" ∧ x.d = .tup [.str "make", .str (tx [c1]), .int (a : Int)]) ∨ (word = "num" ∧ x.d = .tup [.str "num", .str (tx [c1]), .int (n : Int)]) ∨ (word = "words" ∧ x.d = .tup [.str "words", .str (tx [c1]), .int (n : Int)]) ∨
      (word = "put" ∧ x.d = .tup [.str "put", .str (tx [c1]), .int (n : Int), .str (tx [c2])]) ∨ (word = "get" ∧ x.d = .tup [.str "get", .str (tx [c1]), .str (tx [c2]), .int (n : Int)]) ∨ (word = "pair" ∧ x.d = .tup [.str "pair", .str (tx [c1]), .str (tx [c2]), .str (tx [c3])]) ∨
      (word = "find" ∧ x.d = .tup [.str "find", .str (tx [c1]), .str (tx [c2]), .str (tx [c3])]) ∨ (word = "drop" ∧ x.d = .tup [.str "drop", .str (tx [c1])]) ∨ (word = "tell" ∧ x.d = .tup [.str "tell", .str (tx [c1])]) ∨ (word = "hear" ∧ x.d = .tup [.str "hear", .str (tx [c1])]) ∨
      (word = "weak" ∧ x.d = .tup [.str "weak", .str (tx [c1]), .str (tx [c2])]) ∨ (word = "look" ∧ x.d = .tup [.str "look", .str (tx [c1]), .str (tx [c2])]) ∨ (word = "copy" ∧ x.d = .tup [.str "copy", .str (tx [c1]), .str (tx [c2])]) ∨ (word = "same" ∧ x.d = .tup [.str "same", .str (tx [c1]), .str (tx [c2])])) := by
    have hh : word = "make" ∨ word = "num" ∨ word = "words" ∨ word = "put" ∨ word = "get" ∨ word = "pair" ∨ word = "find" ∨ word = "drop" ∨ word = "tell" ∨ word = "hear" ∨ word = "weak" ∨ word = "look" ∨ word = "copy" ∨ word = "same" := by
      have : word ∈ wdA := by
        rw [hword, List.getD_eq_getElem?_getD, List.getElem?_eq_getElem (by exact hk)]
        exact List.getElem_mem _
      simp only [wdA, List.mem_cons, List.not_mem_nil, or_false] at this
      rcases this with h | h | h | h | h | h | h | h | h | h | h | h | h | h <;> simp only [h, true_or, or_true]
    rcases hh with h | h | h | h | h | h | h | h | h | h | h | h | h | h
    · exact ⟨⟨[109, 97, 107, 101], [.L c1, .N a]⟩, ⟨(show formT [109, 97, 107, 101] ≠ [] by decide), L1, N2, trivial⟩, .inl ⟨h, eqd (z := "make") (by decide +kernel)⟩⟩
    · exact ⟨⟨[110, 117, 109], [.L c1, .N n]⟩, ⟨(show formT [110, 117, 109] ≠ [] by decide), L1, N1, trivial⟩, .inr (.inl ⟨h, eqd (z := "num") (by decide +kernel)⟩)⟩
    · exact ⟨⟨[119, 111, 114, 100, 115], [.L c1, .N n]⟩, ⟨(show formT [119, 111, 114, 100, 115] ≠ [] by decide), L1, N1, trivial⟩, .inr (.inr (.inl ⟨h, eqd (z := "words") (by decide +kernel)⟩))⟩
    · exact ⟨⟨[112, 117, 116], [.L c1, .N n, .L c2]⟩, ⟨(show formT [112, 117, 116] ≠ [] by decide), L1, N1, L2, trivial⟩, .inr (.inr (.inr (.inl ⟨h, eqd (z := "put") (by decide +kernel)⟩)))⟩
    · exact ⟨⟨[103, 101, 116], [.L c1, .L c2, .N n]⟩, ⟨(show formT [103, 101, 116] ≠ [] by decide), L1, L2, N1, trivial⟩, .inr (.inr (.inr (.inr (.inl ⟨h, eqd (z := "get") (by decide +kernel)⟩))))⟩
    · exact ⟨⟨[112, 97, 105, 114], [.L c1, .L c2, .L c3]⟩, ⟨(show formT [112, 97, 105, 114] ≠ [] by decide), L1, L2, L3, trivial⟩, .inr (.inr (.inr (.inr (.inr (.inl ⟨h, eqd (z := "pair") (by decide +kernel)⟩)))))⟩
    · exact ⟨⟨[102, 105, 110, 100], [.L c1, .L c2, .L c3]⟩, ⟨(show formT [102, 105, 110, 100] ≠ [] by decide), L1, L2, L3, trivial⟩, .inr (.inr (.inr (.inr (.inr (.inr (.inl ⟨h, eqd (z := "find") (by decide +kernel)⟩))))))⟩
    · exact ⟨⟨[100, 114, 111, 112], [.L c1]⟩, ⟨(show formT [100, 114, 111, 112] ≠ [] by decide), L1, trivial⟩, .inr (.inr (.inr (.inr (.inr (.inr (.inr (.inl ⟨h, eqd (z := "drop") (by decide +kernel)⟩)))))))⟩
    · exact ⟨⟨[116, 101, 108, 108], [.L c1]⟩, ⟨(show formT [116, 101, 108, 108] ≠ [] by decide), L1, trivial⟩, .inr (.inr (.inr (.inr (.inr (.inr (.inr (.inr (.inl ⟨h, eqd (z := "tell") (by decide +kernel)⟩))))))))⟩
    · exact ⟨⟨[104, 101, 97, 114], [.L c1]⟩, ⟨(show formT [104, 101, 97, 114] ≠ [] by decide), L1, trivial⟩, .inr (.inr (.inr (.inr (.inr (.inr (.inr (.inr (.inr (.inl ⟨h, eqd (z := "hear") (by decide +kernel)⟩)))))))))⟩
    · exact ⟨⟨[119, 101, 97, 107], [.L c1, .L c2]⟩, ⟨(show formT [119, 101, 97, 107] ≠ [] by decide), L1, L2, trivial⟩, .inr (.inr (.inr (.inr (.inr (.inr (.inr (.inr (.inr (.inr (.inl ⟨h, eqd (z := "weak") (by decide +kernel)⟩))))))))))⟩
    · exact ⟨⟨[108, 111, 111, 107], [.L c1, .L c2]⟩, ⟨(show formT [108, 111, 111, 107] ≠ [] by decide), L1, L2, trivial⟩, .inr (.inr (.inr (.inr (.inr (.inr (.inr (.inr (.inr (.inr (.inr (.inl ⟨h, eqd (z := "look") (by decide +kernel)⟩)))))))))))⟩
    · exact ⟨⟨[99, 111, 112, 121], [.L c1, .L c2]⟩, ⟨(show formT [99, 111, 112, 121] ≠ [] by decide), L1, L2, trivial⟩, .inr (.inr (.inr (.inr (.inr (.inr (.inr (.inr (.inr (.inr (.inr (.inr (.inl ⟨h, eqd (z := "copy") (by decide +kernel)⟩))))))))))))⟩
    · exact ⟨⟨[115, 97, 109, 101], [.L c1, .L c2]⟩, ⟨(show formT [115, 97, 109, 101] ≠ [] by decide), L1, L2, trivial⟩, .inr (.inr (.inr (.inr (.inr (.inr (.inr (.inr (.inr (.inr (.inr (.inr (.inr ⟨h, eqd (z := "same") (by decide +kernel)⟩))))))))))))⟩
  obtain ⟨x, xok, hx⟩ := cases
  refine ⟨x, xok, fun S => ?_⟩
  clear hword xok
  have pwA : pureAll (wdA.map D.str) = true := pureAll_mem.mpr fun x hx => by
    obtain ⟨y, _, rfl⟩ := List.mem_map.mp hx
    rfl
  rw [List.map_cons, List.map_cons, List.map_cons, List.map_cons, List.map_cons, List.map_cons, List.map_cons, List.map_nil] at edr
  rw [List.map_cons, List.map_cons, List.map_cons, List.map_cons, List.map_cons, List.map_cons, List.map_cons, List.map_nil] at edr
  simp only [List.cons_append, List.nil_append] at edr
  unfold f_law_deed_by b_law_deed_by
  rcases hx with ⟨rfl, hx⟩ | ⟨rfl, hx⟩ | ⟨rfl, hx⟩ | ⟨rfl, hx⟩ | ⟨rfl, hx⟩ | ⟨rfl, hx⟩ | ⟨rfl, hx⟩ | ⟨rfl, hx⟩ | ⟨rfl, hx⟩ | ⟨rfl, hx⟩ | ⟨rfl, hx⟩ | ⟨rfl, hx⟩ | ⟨rfl, hx⟩ | ⟨rfl, hx⟩ <;> rw [hx] <;>
    (dsimp! only [show (13 < sizeLine) = True from lt_line (by decide), set_last, hB, edr, hwA, wd, pwA, ← hLT, g1, g2, g3, en])

set_option Elab.async false
set_option linter.all false
set_option maxRecDepth 100000
set_option maxHeartbeats 4000000
/-! ### a deed, shown -/
theorem cutW (w : D) (X : List D) (S : Sto) : slD' false (.tup (w :: X)) (some 1) none S = .ok (.tup X) S := by
  have e1 : HT.sIx (w :: X).length 0 (some ((1 : Nat) : Int)) = min 1 (w :: X).length := HT.sIx_nat _ _ _
  have h1 : HT.sIx (w :: X).length 0 (some 1) ≠ 0 := by
    have e1' : HT.sIx (w :: X).length 0 (some 1) = min 1 (w :: X).length := e1
    rw [e1', List.length_cons]
    omega
  have e2 := cut_from (xs := w :: X) (a := 1)
  have e3 : slD' false (.tup (w :: X)) (some 1) none S = .ok (.tup (cutD (w :: X) (some 1) none)) S :=
    (if_neg (fun z => h1 z.1) : (if HT.sIx (w :: X).length 0 (some 1) = 0 ∧ HT.sIx (w :: X).length (w :: X).length none = (w :: X).length then (.stuck : Res D) else .ok (.tup (cutD (w :: X) (some 1) none)) S) = _)
  rw [e3]
  exact congrArg (fun y => Res.ok (D.tup y) S) e2
theorem strS_pt {p : Pt} {f : Nat} (h : p.Fit f) (S : Sto) : cStrS [p.d] S = .ok (.str (tx p.t)) S := by
  cases p with
  | L c => rfl
  | N n => exact strS_num (num_log h.2.1)
theorem law_row_spec {x : Dt} (h : x.Ok) (S : Sto) : f_law_row [x.d] S = .ok (.str (tx x.t)) S := by
  have z1 : (" " : Str) = tx [32] := tx_str (by decide +kernel)
  have loop : ∀ (ps : List Pt) (acc : List Nat), (∀ p ∈ ps, ∃ f, p.Fit f) → acc.length + ps.length * 61 ≤ 1000 → forX (.nm 2) (sClr [2] (sSet 1 (mOp2 (addD false) (mOp2 (addD false) (mVar 1) (mC (.str (tx [32])))) (mCB cStrS (aCons (mVar 2) aNil))))) (ps.map Pt.d) [some x.d, some (.str (tx acc)), none] S =
      .nx [some x.d, some (.str (tx (acc ++ (ps.map fun p => [32] ++ p.t).flatten))), none] S := by
    intro ps
    induction ps with
    | nil => intro acc _ _; rw [List.map_nil, forX_nil]; simp
    | cons p ps ih =>
      intro acc hf hl
      obtain ⟨f, hpf⟩ := hf p List.mem_cons_self
      rw [List.length_cons, Nat.add_mul] at hl
      have pl := pt_len hpf
      have a1 := fun S => app_tx (tr := false) (a := acc) (b := [32]) (S := S) (by rw [List.length_cons, List.length_nil]; omega)
      have a2 := fun S => app_tx (tr := false) (a := acc ++ [32]) (b := p.t) (S := S) (by rw [List.length_append, List.length_cons, List.length_nil]; omega)
      have ih' := ih (acc ++ [32] ++ p.t) (fun q hq => hf q (List.mem_cons_of_mem _ hq)) (by simp only [List.length_append, List.length_cons, List.length_nil]; omega)
      rw [List.map_cons, List.map_cons, List.flatten_cons]
      have e : acc ++ ([32] ++ p.t ++ (ps.map fun p => [32] ++ p.t).flatten) = acc ++ [32] ++ p.t ++ (ps.map fun p => [32] ++ p.t).flatten := by simp
      rw [e]
      simp! only [a1, a2, strS_pt hpf, ih']
  have h0 := h.signs _ List.mem_cons_self
  have lp := loop x.ps x.w (fit_mem h.2) (by have := h0.2; have := h.few; omega)
  have ex : x.w ++ (x.ps.map fun p => [32] ++ p.t).flatten = x.t := by
    show _ = TL.joinL [32] (x.w :: x.ps.map Pt.t)
    rw [joinL_flat, List.map_map] <;> rfl
  rw [ex] at lp
  unfold f_law_row b_law_row
  rw [z1]
  have hd : x.d = .tup (.str (tx x.w) :: x.ps.map Pt.d) := rfl
  have itT_ : ∀ S, itT (.tup (x.ps.map Pt.d)) S = some ⟨fixGet (x.ps.map Pt.d), (x.ps.map Pt.d).length + 1⟩ := fun _ => rfl
  obtain ⟨X, hX⟩ : ∃ X, X = x.ps.map Pt.d := ⟨_, rfl⟩
  rw [← hX] at hd lp itT_
  rw [hd] at lp ⊢
  simp! only [cutW, itT_, lp]

set_option Elab.async false
set_option linter.all false
set_option maxRecDepth 100000
set_option maxHeartbeats 4000000
theorem forX_keep {t : Tg} {b : MSt} {ρ : Rho} {S : Sto} : ∀ {xs : List D}, (∀ x ∈ xs, ∃ ρ1, tgM t x ρ S = some ρ1 ∧ b ρ1 S = .nx ρ S) → forX t b xs ρ S = .nx ρ S
  | [], _ => forX_nil
  | x :: xs, h => by
    obtain ⟨ρ1, e1, e2⟩ := h x List.mem_cons_self
    rw [forX_cons, e1, sTgO_some, kFX_nx, e2, kFY_nx]
    exact forX_keep fun y hy => h y (List.mem_cons_of_mem _ hy)
/-! ### rows of a text -/
theorem exit_excA {kp : Bool} {c : Xc} {x : D} {S T : Sto} (h : x.pureB = true) : exitR kp S (.exc ⟨c, some x⟩ (S ++ T)) = .exc ⟨c, some x⟩ S := by
  have h2 : Cld S (S ++ T) ∧ ∀ y, (some x) = some y → y.pureB = true := ⟨cld_app, fun y e => by cases e; exact h⟩
  have e : exitR kp S (.exc ⟨c, some x⟩ (S ++ T)) = .exc ⟨c, some x⟩ ((S ++ T).take S.length) := if_pos h2
  rw [e, take_app]
def enuF : Nat → List D → List D
  | _, [] => []
  | k, x :: xs => .tup [.int (k : Int), x] :: enuF (k + 1) xs
theorem enuF_get : ∀ (xs : List D) (k i : Nat), (enuF k xs)[i]? = xs[i]?.map fun d => D.tup [.int ((i + k : Nat) : Int), d]
  | [], _, _ => rfl
  | x :: xs, k, 0 => by
    have e : ((0 + k : Nat) : Int) = (k : Int) := by omega
    show some (D.tup [.int (k : Int), x]) = some (D.tup [.int ((0 + k : Nat) : Int), x])
    rw [e]
  | x :: xs, k, i + 1 => by
    show (enuF (k + 1) xs)[i]? = _
    rw [enuF_get xs (k + 1) i]
    have e : i + (k + 1) = i + 1 + k := by omega
    rw [e] <;> rfl
theorem enuF_len : ∀ (xs : List D) (k : Nat), (enuF k xs).length = xs.length
  | [], _ => rfl
  | x :: xs, k => by
    show (enuF (k + 1) xs).length + 1 = _
    rw [enuF_len xs (k + 1)] <;> rfl
theorem for_enu1 {t : Tg} {b : MSt} {xs : List D} {k : Nat} {ρ : Rho} {S : Sto} (h : xs.length < k) : kFor (.ok ⟨enFix1 xs, k⟩ S) t b ρ = forX t b (enuF 1 xs) ρ S :=
  (for_fix (xs := enuF 1 xs) (by rw [enuF_len]; exact h) : _).symm ▸ (by
    have e : enFix1 xs = fixGet (enuF 1 xs) := by
      funext i S
      show some (xs[i]?.map fun d => D.tup [.int ((i + 1 : Nat) : Int), d]) = some (enuF 1 xs)[i]?
      rw [enuF_get]
    rw [e])
theorem itEn1_ok {xs : List D} {S : Sto} : itEn1 [.vl xs] S = some ⟨enFix1 xs, xs.length + 1⟩ := rfl
theorem r_itEn1 {ms : MAr} {ρ : Rho} {S : Sto} : miEn1 ms ρ S = kItA (ms ρ S) itEn1 := rfl
theorem nl_tx : ("\n" : Str) = tx [10] := tx_str (by decide +kernel)
theorem em_tx : ("" : Str) = tx [] := tx_str (by decide +kernel)
theorem bl_tx : (" " : Str) = tx [32] := tx_str (by decide +kernel)
def rowsD (R : List (List Nat)) : List D := R.map fun l => D.str (tx l)
theorem rows_pure (R : List (List Nat)) : pureAll (rowsD R) = true := pureAll_mem.mpr fun x hx => by
  obtain ⟨y, _, rfl⟩ := List.mem_map.mp hx
  rfl
/-! ### rows of a log, as they are written -/
def ANS : List (List Nat) := [[111, 107], [121, 101, 115], [110, 111], [110, 111, 110, 101], [116, 104, 105, 110, 103], [110, 111, 116, 104, 105, 110, 103], [110, 111, 32, 116, 104, 105, 110, 103], [110, 111, 32, 102, 105, 101, 108, 100], [110, 111, 32, 114, 111, 111, 109]]
def ansT (l : List Nat) : Bool := decide (l ∈ ANS) || (numT l).isSome
theorem inS_map (neg : Bool) (d : D) {zs : List Str} {cs : List (List Nat)} (h : zs = cs.map tx) {l : List Nat} {S : Sto} (hd : items S d = some (zs.map D.str)) : inQ neg (.str (tx l)) d S = .ok (.bl (if neg = true then !decide (l ∈ cs) else decide (l ∈ cs))) S := by
  have e : inFlat (.str (tx l)) (zs.map D.str) = decide (l ∈ cs) := by
    rw [h]
    unfold inFlat
    rw [List.map_map, List.any_map, Bool.eq_iff_iff, List.any_eq_true]
    constructor
    · rintro ⟨c, hc, e⟩
      have e' : (tx c == tx l) = true := e
      have : tx c = tx l := eq_of_beq e'
      rw [← tx_eq.mp this]
      exact decide_eq_true hc
    · intro hc
      exact ⟨l, of_decide_eq_true hc, (beq_self_eq_true (tx l) : (tx l == tx l) = true)⟩
  have fl : (zs.map D.str).all flatD = true := List.all_eq_true.mpr fun x hx => by
    obtain ⟨z, _, rfl⟩ := List.mem_map.mp hx
    rfl
  unfold inQ
  rw [hd]
  dsimp only
  rw [if_pos ⟨rfl, fl⟩, e]
theorem c_ans : c_ANSWERS = ANS.map tx := by
  have e1 : ∀ {a : Str} {l : List Nat}, a.cps.toList = l → a = tx l := fun h => tx_str h
  unfold c_ANSWERS ANS
  simp only [List.map_cons, List.map_nil]
  repeat' (first | rfl | exact e1 (by decide +kernel) | congr 1)
theorem is_answer_spec {l : List Nat} (h : l.length ≤ 16777216) (S : Sto) : f_is_answer [.str (tx l)] S = .ok (.bl (ansT l)) S := by
  have nt := fun S => number_told_spec (S := S) h
  have iq : ∀ S, inQ false (.str (tx l)) (.tup (c_ANSWERS.map .str)) S = .ok (.bl (decide (l ∈ ANS))) S := fun S => inS_map false _ c_ans rfl
  have io : (!(oiD (numT l)).isN) = (numT l).isSome := by cases numT l <;> rfl
  unfold f_is_answer b_is_answer ansT
  cases h1 : decide (l ∈ ANS) with
  | true => simp! only [iq, h1]
  | false => simp! only [iq, h1, nt, isNot_non, io]
noncomputable def deedRowT (a b : List Nat) : Option D := match deedT a with
  | none => none
  | some ds => if ansT b = true then some (.tup [.str "deed", .tup ds, .str (tx b)]) else none
theorem deed_row_told_spec {a b : List Nat} (ha : a.length ≤ 99998) (hb : b.length ≤ 16777216) (S : Sto) : f_deed_row_told [.str (tx a), .str (tx b)] S = .ok (odV (deedRowT a b)) S := by
  have dt := fun S => deed_told_spec (S := S) ha
  have ia := fun S => is_answer_spec hb S
  unfold f_deed_row_told b_deed_row_told deedRowT
  cases hd : deedT a with
  | none =>
    have dt' : ∀ S, f_deed_told [.str (tx a)] S = .ok .non S := fun S => by rw [dt, hd] <;> rfl
    simp! only [dt', is_non, isN_non]
    rfl
  | some ds =>
    have dt' : ∀ S, f_deed_told [.str (tx a)] S = .ok (.tup ds) S := fun S => by rw [dt, hd] <;> rfl
    cases hb : ansT b with
    | false =>
      simp! only [dt', is_non, isN_tup, ia, hb]
      rfl
    | true =>
      simp! only [dt', is_non, isN_tup, ia, hb]
      rfl
/-! ### freed -/
def freedT (ws : List (List Nat)) : Option D := (allO (ws.map fun w => (numT w).map fun n => D.int (n : Int))).map fun ns => .tup [.str "freed", .vl ns]
theorem od_oi (o : Option Nat) : odV (o.map fun n => D.int (n : Int)) = oiD o := by cases o <;> rfl
theorem freed_vals (ws : List (List Nat)) : (ws.map fun w => (numT w).map fun n => D.int (n : Int)).map odV = ws.map fun w => oiD (numT w) := by
  rw [List.map_map]
  exact List.map_congr_left fun w _ => od_oi _
theorem oi_pure (o : Option Nat) : (oiD o).pureB = true := by cases o <;> rfl
theorem lc_rows {g : List Nat → D} {t : Tg} {me : MEx} {ρ : Rho} {S : Sto} {ws : List (List Nat)} {k : Nat} (hst : ∀ w ∈ ws, ∀ acc, ∃ ρ1, tgM t (.str (tx w)) ρ (S ++ [.lst acc]) = some ρ1 ∧ me ρ1 (S ++ [.lst acc]) = .ok (g w) (S ++ [.lst acc]))
    (hk : k = (rowsD ws).length + 1) (hl : ws.length ≤ 100000) (hp : ∀ w ∈ ws, (g w).pureB = true) : lcF (rowsD ws) k t tYesM me ρ S = .ok (.vl (ws.map g)) S := by
  let F : D → D := fun d => match d with | .str z => g z.cps.toList | _ => .non
  have e : (rowsD ws).map F = ws.map g := by
    unfold rowsD
    rw [List.map_map] <;> rfl
  rw [← e]
  refine lcF_map F (fun d hd acc => ?_) hk (by rw [show (rowsD ws).length = ws.length from List.length_map _]; exact hl) ?_
  · obtain ⟨w, hw, rfl⟩ := List.mem_map.mp hd
    exact hst w hw acc
  · rw [e]
    exact pureAll_mem.mpr fun x hx => by
      obtain ⟨w, hw, rfl⟩ := List.mem_map.mp hx
      exact hp w hw
/-! ### a turn's lists -/
def listsT : List (List Nat) → List (List Nat) → Option (List (List Nat))
  | P, [] => some P
  | P, w :: ws => if w = [124] then listsT (P ++ [[]]) ws else if P = [] then none else match numT w with
    | none => none
    | some n => listsT (P.dropLast ++ [P.getLast?.getD [] ++ [n]]) ws
def qqL (ns : List Nat) : List D := ns.map fun n : Nat => D.int (n : Int)
def locsF (n k : Nat) : List D := (List.range k).map fun i => .loc (n + 1 + i)
def StP (S : Sto) (P : List (List Nat)) : Sto := (S ++ [.lst (locsF S.length P.length)]) ++ P.map fun ns => .lst (qqL ns)
theorem StP_len (S : Sto) (P : List (List Nat)) : (StP S P).length = S.length + 1 + P.length := by
  unfold StP
  rw [List.length_append, List.length_append, List.length_map, List.length_cons, List.length_nil]
theorem StP_get (S : Sto) (P : List (List Nat)) : (StP S P)[S.length]? = some (.lst (locsF S.length P.length)) := by
  unfold StP
  rw [List.getElem?_append_left (by rw [List.length_append, List.length_cons, List.length_nil]; omega)]
  exact get_last _ _
theorem StP_at (S : Sto) (P : List (List Nat)) {i : Nat} {ns : List Nat} (h : P[i]? = some ns) : (StP S P)[S.length + 1 + i]? = some (.lst (qqL ns)) := by
  unfold StP
  have hl : (S ++ [O.lst (locsF S.length P.length)]).length = S.length + 1 := by rw [List.length_append, List.length_cons, List.length_nil]
  rw [List.getElem?_append_right (by rw [hl]; omega), hl, List.getElem?_map]
  have e : S.length + 1 + i - (S.length + 1) = i := by omega
  rw [e, h] <;> rfl
theorem locs_succ (n k : Nat) : locsF n (k + 1) = locsF n k ++ [.loc (n + 1 + k)] := by
  unfold locsF
  rw [List.range_succ, List.map_append] <;> rfl
/-- a new list -/
theorem StP_new (S : Sto) (P : List (List Nat)) : ((StP S P) ++ [O.lst []]).set S.length (O.lst (locsF S.length P.length ++ [D.loc (StP S P).length])) = StP S (P ++ [[]]) := by
  rw [StP_len, ← locs_succ]
  unfold StP
  rw [List.map_append, List.length_append, List.length_cons, List.length_nil, List.append_assoc, List.append_assoc, List.set_append_right _ _ (by omega)]
  rw [Nat.sub_self, List.append_assoc] <;> rfl
/-- a number more in the last one -/
theorem StP_more (S : Sto) (Q : List (List Nat)) (q : List Nat) (n : Nat) : (StP S (Q ++ [q])).set (S.length + 1 + Q.length) (O.lst (qqL q ++ [D.int (n : Int)])) = StP S (Q ++ [q ++ [n]]) := by
  unfold StP
  rw [List.map_append, List.map_append, List.length_append, List.length_append, List.length_cons, List.length_nil, List.length_cons, List.length_nil]
  have hl : (S ++ [O.lst (locsF S.length (Q.length + (0 + 1)))]).length = S.length + 1 := by rw [List.length_append, List.length_cons, List.length_nil]
  have hq : (Q.map fun ns => O.lst (qqL ns)).length = Q.length := List.length_map _
  rw [List.set_append_right _ _ (by rw [hl]; omega), hl]
  have e : S.length + 1 + Q.length - (S.length + 1) = Q.length := by omega
  rw [e, List.set_append_right _ _ (by rw [hq]; exact Nat.le_refl _), hq, Nat.sub_self]
  have e2 : qqL (q ++ [n]) = qqL q ++ [.int (n : Int)] := by unfold qqL; rw [List.map_append] <;> rfl
  rw [List.map_cons, List.map_nil, List.map_cons, List.map_nil, e2] <;> rfl
theorem pd_qqL (S : Sto) (k : Nat) : ∀ ns : List Nat, optAll (pd S k) (qqL ns) = some (ns.map fun n : Nat => PyData.int (n : Int))
  | [] => rfl
  | n :: ns => by
    show optAll (pd S k) (.int (n : Int) :: qqL ns) = _
    rw [optAll_cons (pd_int (S := S) (n := k) (i := (n : Int))) (pd_qqL S k ns)] <;> rfl
theorem StP_empty (S : Sto) (P : List (List Nat)) : eqR (.loc S.length) (.vl []) (StP S P) = .ok (.bl (decide (P = []))) (StP S P) := by
  cases P with
  | nil =>
    have : (StP S [])[S.length]? = some (.lst []) := StP_get S []
    rw [r_eqL, this, kEqL_ok]
    exact eqR_refl rfl (by decide)
  | cons p P =>
    have gp := StP_get S (p :: P)
    have key : ∀ (k : Nat) (Q : List (List Nat)) (base : Nat), (∀ i ns, Q[i]? = some ns → (StP S (p :: P))[S.length + 1 + (base + i)]? = some (.lst (qqL ns))) → optAll (pd (StP S (p :: P)) (k + 1)) ((List.range Q.length).map fun i => D.loc (S.length + 1 + (base + i))) = some (Q.map fun ns => PyData.list (ns.map fun n : Nat => PyData.int (n : Int))) := by
      intro k Q
      induction Q with
      | nil => intro base _; rfl
      | cons q Q ih =>
        intro base h
        have h0 := h 0 q rfl
        rw [List.length_cons, List.range_succ_eq_map, List.map_cons, List.map_map]
        have e : ((fun i => D.loc (S.length + 1 + (base + i))) ∘ Nat.succ) = fun i => D.loc (S.length + 1 + (base + 1 + i)) := by
          funext i
          show D.loc (S.length + 1 + (base + (i + 1))) = _
          congr 1
          omega
        rw [e]
        exact optAll_cons (pd_loc h0 (pd_qqL _ k q)) (ih (base + 1) fun i ns hi => by
          have := h (i + 1) ns (by simpa using hi)
          have e2 : base + 1 + i = base + (i + 1) := by omega
          rw [e2]; exact this)
    have hx : pd (StP S (p :: P)) 8 (.loc S.length) = some (.list ((p :: P).map fun ns => PyData.list (ns.map fun n : Nat => PyData.int (n : Int)))) := by
      refine pd_loc gp ?_
      have := key 6 (p :: P) 0 (fun i ns hi => by rw [Nat.zero_add]; exact StP_at S (p :: P) hi)
      have e : locsF S.length (p :: P).length = (List.range (p :: P).length).map fun i => D.loc (S.length + 1 + (0 + i)) := by
        unfold locsF
        refine List.map_congr_left fun i _ => ?_
        rw [Nat.zero_add]
      rw [e]
      exact this
    have hy : pd (StP S (p :: P)) 8 (.vl []) = some (.list []) := rfl
    have li : ∀ ns : List Nat, PyData.canLayAll0 (ns.map fun n : Nat => PyData.int (n : Int)) = true := fun ns => by
      induction ns with
      | nil => rfl
      | cons n ns ih =>
        rw [List.map_cons]
        show (PyData.canLay0 (.int (n : Int)) && PyData.canLayAll0 _) = true
        rw [ih] <;> rfl
    have ll : ∀ Q : List (List Nat), PyData.canLayAll0 (Q.map fun ns => PyData.list (ns.map fun n : Nat => PyData.int (n : Int))) = true := fun Q => by
      induction Q with
      | nil => rfl
      | cons q Q ih =>
        rw [List.map_cons]
        show (PyData.canLayAll0 (q.map fun n : Nat => PyData.int (n : Int)) && PyData.canLayAll0 _) = true
        rw [li, ih] <;> rfl
    unfold eqR
    have : eqD (StP S (p :: P)) (.loc S.length) (.vl []) = some false := eqD_pd hx hy (ll (p :: P)) rfl false rfl (.inl rfl)
    rw [this] <;> rfl
noncomputable abbrev tnBody (fn : MFn) : MSt := (sClr [2] (sIf (mTest (mOp2 eqR (mVar 2) (mC (.str (tx [124])))))
 (sExpr (mBM isL lAppend (mVar 1) (aCons (mLst true aNil) aNil)))
 (sIf (tOr' (mTest (mOp2 eqR (mVar 1) (mLst false aNil))) (mTest (mOp2 isD (mCall 1 fn (aCons (mVar 2) aNil)) (mC .non))))
 (sRet (mC .non))
 (sExpr (mBM isL lAppend (mOp2 getI (mVar 1) (mOp1 negD (mC (.int 1)))) (aCons (mCall 1 fn (aCons (mVar 2) aNil)) aNil))))))
theorem turn_loop {fn : MFn} (nt : ∀ w : List Nat, w.length ≤ 16777216 → ∀ S, fn [.str (tx w)] S = .ok (oiD (numT w)) S) (a : D) (S : Sto) : ∀ (ws P : List (List Nat)), (∀ w ∈ ws, w.length ≤ 16777216) → P.length + ws.length ≤ 99999 → (∀ q ∈ P, q.length + ws.length ≤ 99999) →
    (∃ P', listsT P ws = some P' ∧ forX (.nm 2) (tnBody fn) (rowsD ws) [some a, some (.loc S.length), none] (StP S P) = .nx [some a, some (.loc S.length), none] (StP S P')) ∨ (listsT P ws = none ∧ ∃ T, forX (.nm 2) (tnBody fn) (rowsD ws) [some a, some (.loc S.length), none] (StP S P) = .rt .non (S ++ T)) := by
  intro ws
  induction ws with
  | nil =>
    intro P _ _ _
    exact .inl ⟨P, rfl, by rw [show rowsD [] = [] from rfl, forX_nil]⟩
  | cons w ws ih =>
    intro P hw hn hq
    rw [List.length_cons] at hn
    have hw' : ∀ x ∈ ws, x.length ≤ 16777216 := fun x hx => hw x (List.mem_cons_of_mem _ hx)
    have e0 : rowsD (w :: ws) = .str (tx w) :: rowsD ws := rfl
    have gp := StP_get S P
    have lp : (locsF S.length P.length).length = P.length := by unfold locsF; rw [List.length_map, List.length_range]
    by_cases h1 : w = [124]
    · have e1 : listsT P (w :: ws) = listsT (P ++ [[]]) ws := if_pos h1
      have ih' := ih (P ++ [[]]) hw' (by rw [List.length_append, List.length_cons, List.length_nil]; omega) (fun q hq' => by
        rcases List.mem_append.mp hq' with h | h
        · have := hq q h
          rw [List.length_cons] at this
          omega
        · rw [List.mem_singleton.mp h, List.length_nil]; omega)
      have gp2 : (StP S P ++ [O.lst []])[S.length]? = some (.lst (locsF S.length P.length)) := by rw [List.getElem?_append_left (by rw [StP_len]; omega)]; exact gp
      have lt : ((locsF S.length P.length).length < sizeLine) = True := lt_line (by rw [lp]; omega)
      have nw := StP_new S P
      have st : forX (.nm 2) (tnBody fn) (rowsD (w :: ws)) [some a, some (.loc S.length), none] (StP S P) = forX (.nm 2) (tnBody fn) (rowsD ws) [some a, some (.loc S.length), none] (StP S (P ++ [[]])) := by
        rw [e0]
        obtain ⟨R, hR⟩ : ∃ R, R = rowsD ws := ⟨_, rfl⟩
        rw [← hR]
        obtain ⟨Z, hZ⟩ : ∃ Z, Z = StP S P := ⟨_, rfl⟩
        obtain ⟨Z2, hZ2⟩ : ∃ Z2, Z2 = StP S (P ++ [[]]) := ⟨_, rfl⟩
        rw [← hZ] at gp gp2 nw ⊢
        rw [← hZ2] at nw ⊢
        simp! only [tx_deq, decide_eq_true h1, gp, gp2, lt, nw]
      rw [st, e1]
      exact ih'
    · have d1 : decide (w = [124]) = false := decide_eq_false h1
      have em := StP_empty S P
      by_cases h2 : P = []
      · refine .inr ⟨by show (if w = [124] then _ else if P = [] then none else _) = none; rw [if_neg h1, if_pos h2], (O.lst (locsF S.length P.length)) :: P.map fun ns => .lst (qqL ns), ?_⟩
        have es : StP S P = S ++ (O.lst (locsF S.length P.length)) :: P.map fun ns => .lst (qqL ns) := by unfold StP; rw [List.append_assoc] <;> rfl
        rw [← es, e0]
        obtain ⟨Z, hZ⟩ : ∃ Z, Z = StP S P := ⟨_, rfl⟩
        rw [← hZ] at em gp ⊢
        rw [decide_eq_true h2] at em
        have em2 : eqR (.vl (locsF S.length P.length)) (.vl []) Z = .ok (.bl true) Z := by
          rw [r_eqL, gp, kEqL_ok] at em
          exact em
        simp! only [tx_deq, d1, gp, em2]
      · have em' : eqR (.vl (locsF S.length P.length)) (.vl []) (StP S P) = .ok (.bl false) (StP S P) := by
          rw [decide_eq_false h2, r_eqL, gp, kEqL_ok] at em
          exact em
        have nt := nt w (hw w List.mem_cons_self)
        cases hn2 : numT w with
        | none =>
          refine .inr ⟨by show (if w = [124] then _ else if P = [] then none else match numT w with | none => none | some n => _) = none; rw [if_neg h1, if_neg h2, hn2], (O.lst (locsF S.length P.length)) :: P.map fun ns => .lst (qqL ns), ?_⟩
          have es : StP S P = S ++ (O.lst (locsF S.length P.length)) :: P.map fun ns => .lst (qqL ns) := by unfold StP; rw [List.append_assoc] <;> rfl
          have nt' : ∀ S, fn [.str (tx w)] S = .ok .non S := fun S => by rw [nt, hn2] <;> rfl
          rw [← es, e0]
          obtain ⟨Z, hZ⟩ : ∃ Z, Z = StP S P := ⟨_, rfl⟩
          rw [← hZ] at em' gp ⊢
          simp! only [tx_deq, d1, gp, em', nt', is_non, isN_non]
        | some n =>
          obtain ⟨Q, q, rfl⟩ : ∃ Q q, P = Q ++ [q] := ⟨P.dropLast, P.getLast h2, (List.dropLast_concat_getLast h2).symm⟩
          have e1 : listsT (Q ++ [q]) (w :: ws) = listsT (Q ++ [q ++ [n]]) ws := by
            show (if w = [124] then _ else if Q ++ [q] = [] then none else match numT w with | none => none | some n => listsT ((Q ++ [q]).dropLast ++ [(Q ++ [q]).getLast?.getD [] ++ [n]]) ws) = _
            rw [if_neg h1, if_neg h2, hn2]
            dsimp only
            rw [List.dropLast_concat, List.getLast?_concat] <;> rfl
          have hqq := hq q (List.mem_append_right _ (List.mem_singleton.mpr rfl))
          rw [List.length_cons] at hqq
          rw [List.length_append, List.length_cons, List.length_nil] at hn lp gp em'
          have ih' := ih (Q ++ [q ++ [n]]) hw' (by rw [List.length_append, List.length_cons, List.length_nil]; omega) (fun x hx => by
            rcases List.mem_append.mp hx with h | h
            · have := hq x (List.mem_append_left _ h)
              rw [List.length_cons] at this
              omega
            · rw [List.mem_singleton.mp h, List.length_append, List.length_cons, List.length_nil]; omega)
          have nt' : ∀ S, fn [.str (tx w)] S = .ok (.int (n : Int)) S := fun S => by rw [nt, hn2] <;> rfl
          have ga : atI (locsF S.length (Q.length + (0 + 1))) (-1) = some (.loc (S.length + 1 + Q.length)) := by
            rw [Nat.zero_add, locs_succ]
            exact atI_last _ _
          have gl := StP_at S (Q ++ [q]) (i := Q.length) (ns := q) (by rw [List.getElem?_append_right (Nat.le_refl _), Nat.sub_self] <;> rfl)
          have lt : ((qqL q).length < sizeLine) = True := lt_line (by unfold qqL; rw [List.length_map]; omega)
          have mo := StP_more S Q q n
          have st : forX (.nm 2) (tnBody fn) (rowsD (w :: ws)) [some a, some (.loc S.length), none] (StP S (Q ++ [q])) = forX (.nm 2) (tnBody fn) (rowsD ws) [some a, some (.loc S.length), none] (StP S (Q ++ [q ++ [n]])) := by
            rw [e0]
            obtain ⟨R, hR⟩ : ∃ R, R = rowsD ws := ⟨_, rfl⟩
            rw [← hR]
            obtain ⟨Z, hZ⟩ : ∃ Z, Z = StP S (Q ++ [q]) := ⟨_, rfl⟩
            obtain ⟨Z2, hZ2⟩ : ∃ Z2, Z2 = StP S (Q ++ [q ++ [n]]) := ⟨_, rfl⟩
            rw [← hZ] at gp gl mo em' ⊢
            rw [← hZ2] at mo ⊢
            obtain ⟨j, hj⟩ : ∃ j, j = S.length + 1 + Q.length := ⟨_, rfl⟩
            rw [← hj] at ga gl mo
            simp! only [tx_deq, d1, gp, em', nt', is_non, isN_int, ga, gl, lt, mo]
          rw [st, e1]
          exact ih'
def turnT (ws : List (List Nat)) : Option D := match listsT [] ws with
  | none => none
  | some P => if P.length = 7 then some (.tup (.str "turn" :: P.map fun ns => .vl (qqL ns))) else none
theorem bar_tx : ("|" : Str) = tx [124] := tx_str (by decide +kernel)
def lvL (P : List (List Nat)) : List D := P.map fun ns => .vl (qqL ns)
theorem qqL_pure (ns : List Nat) : pureAll (qqL ns) = true := pureAll_mem.mpr fun x hx => by
  obtain ⟨y, _, rfl⟩ := List.mem_map.mp hx
  rfl
theorem lvL_pure (P : List (List Nat)) : pureAll (lvL P) = true := pureAll_mem.mpr fun x hx => by
  obtain ⟨y, _, rfl⟩ := List.mem_map.mp hx
  rfl
theorem StP_app (S : Sto) (P : List (List Nat)) : StP S P = S ++ (O.lst (locsF S.length P.length) :: P.map fun ns => .lst (qqL ns)) := by unfold StP; rw [List.append_assoc] <;> rfl
theorem StP_cld (S : Sto) (P : List (List Nat)) : Cld S (StP S P) := by rw [StP_app]; exact cld_app
theorem StP_take (S : Sto) (P : List (List Nat)) : (StP S P).take S.length = S := by rw [StP_app, take_app]
theorem StP_fzs (S : Sto) (P : List (List Nat)) : ∀ (Q : List (List Nat)) (base : Nat), (∀ i ns, Q[i]? = some ns → P[base + i]? = some ns) → optAll (fzD (StP S P) S.length 7) ((List.range Q.length).map fun i => D.loc (S.length + 1 + (base + i))) = some (lvL Q)
  | [], _, _ => rfl
  | q :: Q, base, h => by
    have h0 := StP_at S P (h 0 q rfl)
    rw [List.length_cons, List.range_succ_eq_map, List.map_cons, List.map_map]
    have e : ((fun i => D.loc (S.length + 1 + (base + i))) ∘ Nat.succ) = fun i => D.loc (S.length + 1 + (base + 1 + i)) := by
      funext i
      show D.loc (S.length + 1 + (base + (i + 1))) = _
      congr 1
      omega
    rw [e]
    have f0 : fzD (StP S P) S.length 7 (.loc (S.length + 1 + (base + 0))) = some (.vl (qqL q)) := by
      rw [fz_loc (by omega), h0]
      exact kFz_lst (qqL_pure q)
    exact optAll_cons f0 (StP_fzs S P Q (base + 1) fun i ns hi => by
      have := h (i + 1) ns (by simpa using hi)
      have e2 : base + 1 + i = base + (i + 1) := by omega
      rw [e2]; exact this)
theorem StP_fz (S : Sto) (P : List (List Nat)) : fzD (StP S P) S.length 8 (.loc S.length) = some (.vl (lvL P)) := by
  rw [fz_loc0, StP_get]
  show vlO (optAll (fzD (StP S P) S.length 7) (locsF S.length P.length)) = _
  have := StP_fzs S P P 0 fun i ns hi => by rw [Nat.zero_add]; exact hi
  have e : locsF S.length P.length = (List.range P.length).map fun i => .loc (S.length + 1 + (0 + i)) := by
    unfold locsF
    refine List.map_congr_left fun i _ => ?_
    rw [Nat.zero_add]
  rw [e, this]
  exact if_pos (lvL_pure P)
theorem turn_scp {a : D} (ha : a.pureB = true) (S : Sto) (P : List (List Nat)) : scpR S (.nx [some a, some (.loc S.length), none] (StP S P)) = .nx [some a, some (.vl (lvL P)), none] S := by
  rw [scp_nx (StP_cld S P)]
  have e1 : fzSlot (StP S P) S.length (some a) = some (some a) := by
    have h : fzD (StP S P) S.length 8 a = some a := fz_pure ha
    unfold fzSlot
    dsimp only
    rw [h]
  have e2 : fzSlot (StP S P) S.length (some (.loc S.length)) = some (some (.vl (lvL P))) := by
    unfold fzSlot
    dsimp only
    rw [StP_fz]
  have e : fzRho (StP S P) S.length [some a, some (.loc S.length), none] = some [some a, some (.vl (lvL P)), none] := by
    unfold fzRho
    exact optAll_cons e1 (optAll_cons e2 rfl)
  rw [e, scpE_some, StP_take]
theorem exit_v {d : D} {S : Sto} (h : d.pureB = true) : exitR false S (.ok d S) = .ok d S := by rw [exit_self, ite_f, exK_none, fz_pure h, exO_some, List.take_length]
theorem exit_vA {d : D} {S T : Sto} (h : d.pureB = true) : exitR false S (.ok d (S ++ T)) = .ok d S := by rw [exit_app, ite_f, exK_none, fz_pure h, exO_some, take_app]
theorem StP_nil (S : Sto) : StP S [] = S ++ [.lst []] := by unfold StP; rw [List.map_nil, List.append_nil] <;> rfl
theorem lvL_len (P : List (List Nat)) : (lvL P).length = P.length := List.length_map _
/-! ### the row that a text writes -/
theorem ar_tx : (" -> " : Str) = tx [32, 45, 62, 32] := tx_str (by decide +kernel)
theorem tu_tx : ("turn" : Str) = tx [116, 117, 114, 110] := tx_str (by decide +kernel)
theorem fr_tx : ("freed" : Str) = tx [102, 114, 101, 101, 100] := tx_str (by decide +kernel)
def BEP : List (List Nat) := [[98, 101, 103, 105, 110], [101, 110, 100], [112, 97, 99, 107, 101, 100]]
theorem bep_tx : (["begin", "end", "packed"] : List Str) = BEP.map tx := by
  have e1 : ("begin" : Str) = tx [98, 101, 103, 105, 110] := tx_str (by decide +kernel)
  have e2 : ("end" : Str) = tx [101, 110, 100] := tx_str (by decide +kernel)
  have e3 : ("packed" : Str) = tx [112, 97, 99, 107, 101, 100] := tx_str (by decide +kernel)
  rw [e1, e2, e3] <;> rfl
theorem par_len (s : List Nat) : ∀ (l acc p q : List Nat), TL.par s acc l = some (p, q) → p.length ≤ acc.length + l.length ∧ q.length ≤ l.length
  | [], _, _, _, h => by cases h
  | c :: r, acc, p, q, h => by
    have h' : (if TL.pre s (c :: r) = true then some (acc, (c :: r).drop s.length) else TL.par s (acc ++ [c]) r) = some (p, q) := h
    by_cases hp : TL.pre s (c :: r) = true
    · rw [if_pos hp] at h'
      injection h' with h'
      injection h' with h1 h2
      subst h1 h2
      rw [List.length_drop]
      constructor <;> omega
    · rw [if_neg hp] at h'
      have := par_len s r _ p q h'
      rw [List.length_append, List.length_cons, List.length_nil] at this
      rw [List.length_cons]
      constructor <;> omega
def wordsT : List (List Nat) → Option D
  | [] => none
  | w :: ws => if w = [116, 117, 114, 110] then turnT ws else if w = [102, 114, 101, 101, 100] then freedT ws else none
noncomputable def rowT (l : List Nat) : Option D := match TL.par [32, 45, 62, 32] [] l with
  | some (p, q) => deedRowT p q
  | none => if l ∈ BEP then some (.tup [.str (tx l)]) else wordsT (TL.spl [32] 0 [] l)
theorem parD_some {l p q : List Nat} (h : TL.par [32, 45, 62, 32] [] l = some (p, q)) (hl : l.length ≤ 16777216) (S : Sto) : parD (.str (tx l)) [.str (tx [32, 45, 62, 32])] S = .ok (.tup [.str (tx p), .str (tx [32, 45, 62, 32]), .str (tx q)]) S := by
  have e := SX.partition_some (a := l) (List.cons_ne_nil _ _) h
  show (if ((tx [32, 45, 62, 32]).length == 0) = false ∧ (tx l).length ≤ sizeLine then Res.ok (D.tup [.str (Txt.partition (tx l) (tx [32, 45, 62, 32])).1, .str (Txt.partition (tx l) (tx [32, 45, 62, 32])).2.1, .str (Txt.partition (tx l) (tx [32, 45, 62, 32])).2.2]) S else .stuck) = _
  rw [if_pos ⟨rfl, by rw [tx_len, le_lineW hl]; trivial⟩, e]
theorem parD_none {l : List Nat} (h : TL.par [32, 45, 62, 32] [] l = none) (hl : l.length ≤ 16777216) (S : Sto) : parD (.str (tx l)) [.str (tx [32, 45, 62, 32])] S = .ok (.tup [.str (tx l), .str (tx []), .str (tx [])]) S := by
  have e := SX.partition_none (a := l) (List.cons_ne_nil _ _) h
  show (if ((tx [32, 45, 62, 32]).length == 0) = false ∧ (tx l).length ≤ sizeLine then Res.ok (D.tup [.str (Txt.partition (tx l) (tx [32, 45, 62, 32])).1, .str (Txt.partition (tx l) (tx [32, 45, 62, 32])).2.1, .str (Txt.partition (tx l) (tx [32, 45, 62, 32])).2.2]) S else .stuck) = _
  rw [if_pos ⟨rfl, by rw [tx_len, le_lineW hl]; trivial⟩, e]
theorem cut1 (d : D) (R : List D) : cutD (d :: R) (some 1) none = R := cut_from (xs := d :: R) (a := 1)

set_option Elab.async false
set_option linter.all false
set_option maxRecDepth 100000
set_option maxHeartbeats 4000000
/-! ### what rows are made of -/
theorem datA_mem : ∀ {xs : List D}, (∀ x ∈ xs, x.dat = true) → datAll xs = true
  | [], _ => rfl
  | x :: xs, h => Bool.and_eq_true_iff.mpr ⟨h x List.mem_cons_self, datA_mem fun y hy => h y (List.mem_cons_of_mem _ hy)⟩
theorem depA_mem {k : Nat} : ∀ {xs : List D}, (∀ x ∈ xs, x.dep ≤ k) → depAll xs ≤ k
  | [], _ => Nat.zero_le _
  | x :: xs, h => Nat.max_le.mpr ⟨h x List.mem_cons_self, depA_mem fun y hy => h y (List.mem_cons_of_mem _ hy)⟩
theorem allO_mem : ∀ {xs : List (Option D)} {ds : List D}, allO xs = some ds → ∀ d ∈ ds, some d ∈ xs
  | [], ds, h, d, hd => by cases h; cases hd
  | none :: r, ds, h, d, hd => by cases h
  | some e :: r, ds, h, d, hd => by
    obtain ⟨es, he, rfl⟩ := Option.map_eq_some_iff.mp h
    rcases List.mem_cons.mp hd with rfl | hd
    · exact List.mem_cons_self
    · exact List.mem_cons_of_mem _ (allO_mem he d hd)
theorem rootT_dat : ∀ {w : List Nat} {d : D}, rootT w = some d → d.dat = true ∧ d.dep = 0
  | [c], d, h => by
    have h' : (if 97 ≤ c ∧ c ≤ 122 then some (D.str (tx [c])) else none) = some d := h
    by_cases hc : 97 ≤ c ∧ c ≤ 122
    · rw [if_pos hc] at h'
      cases h'
      exact ⟨tx_dat fun x hx => by rw [List.mem_singleton.mp hx]; omega, rfl⟩
    · rw [if_neg hc] at h'
      cases h'
  | [], _, h => by cases h
  | _ :: _ :: _, _, h => by cases h
theorem partT_dat {f : Nat} {w : List Nat} {d : D} (h : partT f w = some d) : d.dat = true ∧ d.dep = 0 := by
  unfold partT at h
  split at h
  · exact rootT_dat h
  · split at h
    · split at h
      · cases h
      · cases h
        exact ⟨rfl, rfl⟩
    · cases h
theorem deedT_dat {l : List Nat} {ds : List D} (h : deedT l = some ds) : datAll ds = true ∧ depAll ds ≤ 0 := by
  unfold deedT at h
  split at h
  · cases h
  · rename_i w ws hw
    split at h
    · cases h
    · rename_i hc
      obtain ⟨ps, e, rfl⟩ := Option.map_eq_some_iff.mp h
      obtain ⟨q, hq, e1, _⟩ := form_in (w := w) fun z => hc (.inl z)
      have sg := (FT_signs q hq).1
      rw [e1] at sg
      have pp : ∀ x ∈ ps, x.dat = true ∧ x.dep = 0 := fun x hx => by
        obtain ⟨i, hi, e2⟩ := List.mem_iff_getElem.mp (allO_mem e x hx)
        rw [List.getElem_zipWith] at e2
        exact partT_dat e2
      constructor
      · refine datA_mem fun x hx => ?_
        rcases List.mem_cons.mp hx with rfl | hx
        · exact tx_dat fun c hc => by have := sg c hc; omega
        · exact (pp x hx).1
      · refine depA_mem fun x hx => ?_
        rcases List.mem_cons.mp hx with rfl | hx
        · exact Nat.le_refl _
        · rw [(pp x hx).2]; exact Nat.le_refl _
theorem numT_sg {l : List Nat} {n : Nat} (h : numT l = some n) : (∀ c ∈ l, 48 ≤ c ∧ c ≤ 57) ∧ l.length ≤ 60 := by
  unfold numT at h
  split at h
  · rename_i hc
    exact ⟨fun c hx => of_decide_eq_true (List.all_eq_true.mp hc.2.2.2 c hx), hc.2.1⟩
  · cases h
theorem ansT_sg {b : List Nat} (h : ansT b = true) : (∀ c ∈ b, c < 1114112) := by
  unfold ansT at h
  rcases Bool.or_eq_true_iff.mp h with h | h
  · have : ∀ a ∈ ANS, ∀ c ∈ a, c < 1114112 := by decide
    exact this b (of_decide_eq_true h)
  · cases hn : numT b with
    | none => rw [hn] at h; cases h
    | some n => exact fun c hc => by have := (numT_sg hn).1 c hc; omega
theorem qqL_dat (ns : List Nat) : datAll (qqL ns) = true := datA_mem fun x hx => by
  obtain ⟨y, _, rfl⟩ := List.mem_map.mp hx
  rfl
theorem qqL_dep (ns : List Nat) : depAll (qqL ns) ≤ 0 := depA_mem fun x hx => by
  obtain ⟨y, _, rfl⟩ := List.mem_map.mp hx
  exact Nat.le_refl _
theorem rowT_tup {l : List Nat} {d : D} (h : rowT l = some d) : ∃ xs, d = .tup xs ∧ datAll xs = true ∧ depAll xs ≤ 1 := by
  unfold rowT at h
  split at h
  · rename_i p q hp
    unfold deedRowT at h
    split at h
    · cases h
    · rename_i ds hd
      split at h
      · rename_i hb
        cases h
        obtain ⟨h1, h2⟩ := deedT_dat hd
        refine ⟨_, rfl, datA_mem fun x hx => ?_, depA_mem fun x hx => ?_⟩
        · rcases List.mem_cons.mp hx with rfl | hx
          · exact (by decide +kernel)
          · rcases List.mem_cons.mp hx with rfl | hx
            · exact h1
            · rw [List.mem_singleton.mp hx]
              exact tx_dat (ansT_sg hb)
        · rcases List.mem_cons.mp hx with rfl | hx
          · exact Nat.zero_le _
          · rcases List.mem_cons.mp hx with rfl | hx
            · show depAll ds + 1 ≤ 1
              omega
            · rw [List.mem_singleton.mp hx]
              exact Nat.zero_le _
      · cases h
  · split at h
    · rename_i hb
      cases h
      have : ∀ a ∈ BEP, ∀ c ∈ a, c < 1114112 := by decide
      refine ⟨_, rfl, datA_mem fun x hx => ?_, depA_mem fun x hx => ?_⟩
      · rw [List.mem_singleton.mp hx]
        exact tx_dat (this l hb)
      · rw [List.mem_singleton.mp hx]
        exact Nat.zero_le _
    · unfold wordsT at h
      split at h
      · cases h
      · rename_i w ws hw
        split at h
        · unfold turnT at h
          split at h
          · cases h
          · rename_i P hP
            split at h
            · cases h
              refine ⟨_, rfl, datA_mem fun x hx => ?_, depA_mem fun x hx => ?_⟩
              · rcases List.mem_cons.mp hx with rfl | hx
                · exact (by decide +kernel)
                · obtain ⟨y, _, rfl⟩ := List.mem_map.mp hx
                  exact qqL_dat y
              · rcases List.mem_cons.mp hx with rfl | hx
                · exact Nat.zero_le _
                · obtain ⟨y, _, rfl⟩ := List.mem_map.mp hx
                  show depAll (qqL y) + 1 ≤ 1
                  have := qqL_dep y
                  omega
            · cases h
        · split at h
          · obtain ⟨ns, e, rfl⟩ := Option.map_eq_some_iff.mp h
            have pp : ∀ x ∈ ns, x.dat = true ∧ x.dep = 0 := fun x hx => by
              obtain ⟨y, _, e2⟩ := List.mem_map.mp (allO_mem e x hx)
              obtain ⟨n, _, rfl⟩ := Option.map_eq_some_iff.mp e2
              exact ⟨rfl, rfl⟩
            refine ⟨_, rfl, datA_mem fun x hx => ?_, depA_mem fun x hx => ?_⟩
            · rcases List.mem_cons.mp hx with rfl | hx
              · exact (by decide +kernel)
              · rw [List.mem_singleton.mp hx]
                exact datA_mem fun x hx => (pp x hx).1
            · rcases List.mem_cons.mp hx with rfl | hx
              · exact Nat.zero_le _
              · rw [List.mem_singleton.mp hx]
                show depAll ns + 1 ≤ 1
                have := depA_mem (k := 0) fun x hx => Nat.le_of_eq (pp x hx).2
                omega
          · cases h
theorem rowT_dat {l : List Nat} {d : D} (h : rowT l = some d) : d.dat = true ∧ d.dep ≤ 2 := by
  obtain ⟨xs, rfl, h1, h2⟩ := rowT_tup h
  exact ⟨h1, by show depAll xs + 1 ≤ 2; omega⟩
/-! ### rows of a log and their texts -/
abbrev AR : List Nat := [32, 45, 62, 32]
theorem pre_ar {c : Nat} {l : List Nat} (h : l.head? ≠ some 45) : TL.pre AR (c :: l) = false := by
  refine Bool.eq_false_iff.mpr fun z => ?_
  cases l with
  | nil =>
    have e : [c] = AR := eq_of_beq z
    cases e
  | cons d r =>
    have e : c :: d :: List.take 2 r = AR := eq_of_beq z
    have : d = 45 := (List.cons.inj (List.cons.inj e).2).1
    exact h (by rw [this] <;> rfl)
theorem par_ar : ∀ (p acc q : List Nat), 45 ∉ p → TL.par AR acc (p ++ (AR ++ q)) = some (acc ++ p, q)
  | [], acc, q, _ => by
    show (if TL.pre AR (32 :: ([45, 62, 32] ++ q)) = true then some (acc, (AR ++ q).drop 4) else _) = _
    have e : TL.pre AR (32 :: ([45, 62, 32] ++ q)) = true := by
      show (([32, 45, 62, 32] : List Nat) == AR) = true
      decide
    rw [if_pos e, List.append_nil] <;> rfl
  | c :: p, acc, q, h => by
    show (if TL.pre AR (c :: (p ++ (AR ++ q))) = true then _ else TL.par AR (acc ++ [c]) (p ++ (AR ++ q))) = _
    have hh : (p ++ (AR ++ q)).head? ≠ some 45 := by
      cases p with
      | nil => exact fun z => by cases z
      | cons d p => exact fun z => h (by
          injection z with z
          have z' : d = 45 := z
          rw [z']; simp)
    rw [pre_ar hh, if_neg Bool.false_ne_true, par_ar p _ q (fun z => h (List.mem_cons_of_mem _ z)), List.append_assoc] <;> rfl
theorem par_no : ∀ (l acc : List Nat), 45 ∉ l → TL.par AR acc l = none
  | [], _, _ => rfl
  | c :: p, acc, h => by
    show (if TL.pre AR (c :: p) = true then _ else TL.par AR (acc ++ [c]) p) = _
    have hh : p.head? ≠ some 45 := by
      cases p with
      | nil => exact fun z => by cases z
      | cons d p => exact fun z => h (by
          injection z with z
          have z' : d = 45 := z
          rw [z']; simp)
    rw [pre_ar hh, if_neg Bool.false_ne_true, par_no p _ (fun z => h (List.mem_cons_of_mem _ z))]
theorem mem_join {w : List Nat} {ts : List (List Nat)} {c : Nat} (h : c ∈ TL.joinL [32] (w :: ts)) : c = 32 ∨ ∃ p ∈ w :: ts, c ∈ p := by
  rw [joinL_flat] at h
  rcases List.mem_append.mp h with h | h
  · exact .inr ⟨w, List.mem_cons_self, h⟩
  · obtain ⟨z, hz, hc⟩ := List.mem_flatten.mp h
    obtain ⟨t, ht, rfl⟩ := List.mem_map.mp hz
    rcases List.mem_append.mp hc with hc | hc
    · exact .inl (List.mem_singleton.mp hc)
    · exact .inr ⟨t, List.mem_cons_of_mem _ ht, hc⟩
theorem rowT_words {w : List Nat} {ts : List (List Nat)} (h : ∀ p ∈ w :: ts, ∀ c ∈ p, c ≠ 32 ∧ c ≠ 45) (hb : TL.joinL [32] (w :: ts) ∉ BEP) : rowT (TL.joinL [32] (w :: ts)) = wordsT (w :: ts) := by
  have n45 : 45 ∉ TL.joinL [32] (w :: ts) := fun z => by
    rcases mem_join z with z | ⟨p, hp, z⟩
    · cases z
    · exact (h p hp 45 z).2 rfl
  unfold rowT
  rw [par_no _ _ n45]
  dsimp only
  rw [if_neg hb, TL.spl_join (List.cons_ne_nil _ _) fun p hp z => (h p hp 32 z).1 rfl]
theorem allO_map_some {α : Type} (f : α → D) : ∀ l : List α, allO (l.map fun n => some (f n)) = some (l.map f)
  | [] => rfl
  | a :: l => by
    show (allO (l.map fun n => some (f n))).map (f a :: ·) = _
    rw [allO_map_some f l] <;> rfl
def Few (ns : List Nat) : Prop := ns.length ≤ 5 ∧ ∀ n ∈ ns, n < 10 ^ 60
abbrev frW : List Nat := [102, 114, 101, 101, 100]
abbrev tuW : List Nat := [116, 117, 114, 110]
theorem not_bep {l : List Nat} {c : Nat} (h : l.head? = some c) (hc : c = 102 ∨ c = 116) : l ∉ BEP := fun z => by
  have : ∀ b ∈ BEP, b.head? ≠ some 102 ∧ b.head? ≠ some 116 := by decide
  rcases hc with rfl | rfl
  · exact (this l z).1 h
  · exact (this l z).2 h
theorem join_head {w : List Nat} {ts : List (List Nat)} {c : Nat} (h : w.head? = some c) : (TL.joinL [32] (w :: ts)).head? = some c := by
  rw [joinL_flat]
  cases w with
  | nil => cases h
  | cons d w => exact h
theorem num_sg {n : Nat} : ∀ c ∈ TL.numL n, c ≠ 32 ∧ c ≠ 45 ∧ c ≠ 10 := fun c hc => by
  have := TL.numL_digits n c hc
  omega
def freedW (ns : List Nat) : List (List Nat) := ns.map TL.numL
theorem rowT_freed {ns : List Nat} (h : Few ns) : rowT (TL.joinL [32] (frW :: freedW ns)) = some (.tup [.str "freed", .vl (qqL ns)]) := by
  have hs : ∀ p ∈ frW :: freedW ns, ∀ c ∈ p, c ≠ 32 ∧ c ≠ 45 := fun p hp c hc => by
    rcases List.mem_cons.mp hp with rfl | hp
    · have : ∀ c ∈ frW, c ≠ 32 ∧ c ≠ 45 := by decide
      exact this c hc
    · obtain ⟨n, _, rfl⟩ := List.mem_map.mp hp
      have := num_sg c hc
      exact ⟨this.1, this.2.1⟩
  rw [rowT_words hs (not_bep (join_head rfl) (.inl rfl))]
  unfold wordsT
  dsimp only
  rw [if_neg (by decide), if_pos rfl]
  unfold freedT freedW
  have e : (ns.map TL.numL).map (fun w => (numT w).map fun n => D.int (n : Int)) = ns.map fun n : Nat => some (D.int (n : Int)) := by
    rw [List.map_map]
    refine List.map_congr_left fun n hn => ?_
    simp only [Function.comp, numT_num (h.2 n hn)]
    rfl
  rw [e, allO_map_some (fun n : Nat => D.int (n : Int))] <;> rfl
def turnW (P : List (List Nat)) : List (List Nat) := (P.map fun ns => [124] :: ns.map TL.numL).flatten
theorem listsT_nums : ∀ (ns : List Nat) (Q : List (List Nat)) (q : List Nat) (rest : List (List Nat)), (∀ n ∈ ns, n < 10 ^ 60) → listsT (Q ++ [q]) (ns.map TL.numL ++ rest) = listsT (Q ++ [q ++ ns]) rest
  | [], Q, q, rest, _ => by rw [List.append_nil] <;> rfl
  | n :: ns, Q, q, rest, h => by
    have n1 : TL.numL n ≠ [124] := fun z => by
      have := TL.numL_digits n 124 (by rw [z]; exact List.mem_singleton.mpr rfl)
      omega
    have n2 : Q ++ [q] ≠ [] := by simp
    show (if TL.numL n = [124] then _ else if Q ++ [q] = [] then none else match numT (TL.numL n) with
      | none => none
      | some n => listsT ((Q ++ [q]).dropLast ++ [(Q ++ [q]).getLast?.getD [] ++ [n]]) (ns.map TL.numL ++ rest)) = _
    rw [if_neg n1, if_neg n2, numT_num (h n List.mem_cons_self)]
    dsimp only
    rw [List.dropLast_concat, List.getLast?_concat]
    show listsT (Q ++ [q ++ [n]]) (ns.map TL.numL ++ rest) = _
    rw [listsT_nums ns Q (q ++ [n]) rest fun m hm => h m (List.mem_cons_of_mem _ hm), List.append_assoc] <;> rfl
theorem listsT_all : ∀ (P Q : List (List Nat)), (∀ ns ∈ P, Few ns) → listsT Q (turnW P) = some (Q ++ P)
  | [], Q, _ => by rw [List.append_nil] <;> rfl
  | ns :: P, Q, h => by
    have e : turnW (ns :: P) = [124] :: (ns.map TL.numL ++ turnW P) := rfl
    have e2 : listsT Q ([124] :: (ns.map TL.numL ++ turnW P)) = listsT (Q ++ [[]]) (ns.map TL.numL ++ turnW P) := if_pos rfl
    rw [e, e2, listsT_nums ns Q [] _ (h ns List.mem_cons_self).2, List.nil_append, listsT_all P _ fun m hm => h m (List.mem_cons_of_mem _ hm), List.append_assoc] <;> rfl
theorem turnW_mem {P : List (List Nat)} {p : List Nat} (h : p ∈ turnW P) : p = [124] ∨ ∃ ns ∈ P, ∃ n ∈ ns, p = TL.numL n := by
  obtain ⟨l, hl, hp⟩ := List.mem_flatten.mp h
  obtain ⟨ns, hns, rfl⟩ := List.mem_map.mp hl
  rcases List.mem_cons.mp hp with rfl | hp
  · exact .inl rfl
  · obtain ⟨n, hn, rfl⟩ := List.mem_map.mp hp
    exact .inr ⟨ns, hns, n, hn, rfl⟩
theorem turnW_sg {P : List (List Nat)} : ∀ p ∈ tuW :: turnW P, ∀ c ∈ p, c ≠ 32 ∧ c ≠ 45 ∧ c ≠ 10 := fun p hp c hc => by
  rcases List.mem_cons.mp hp with rfl | hp
  · have : ∀ c ∈ tuW, c ≠ 32 ∧ c ≠ 45 ∧ c ≠ 10 := by decide
    exact this c hc
  · rcases turnW_mem hp with rfl | ⟨_, _, n, _, rfl⟩
    · rw [List.mem_singleton.mp hc]; decide
    · exact num_sg c hc
theorem rowT_turn {P : List (List Nat)} (hP : P.length = 7) (h : ∀ ns ∈ P, Few ns) : rowT (TL.joinL [32] (tuW :: turnW P)) = some (.tup (.str "turn" :: lvL P)) := by
  rw [rowT_words (fun p hp c hc => ⟨(turnW_sg p hp c hc).1, (turnW_sg p hp c hc).2.1⟩) (not_bep (join_head rfl) (.inr rfl))]
  unfold wordsT
  dsimp only
  rw [if_pos rfl]
  unfold turnT
  rw [listsT_all P [] h, List.nil_append]
  dsimp only
  rw [if_pos hP] <;> rfl
theorem rowT_bep {l : List Nat} (h : l ∈ BEP) : rowT l = some (.tup [.str (tx l)]) := by
  have n45 : ∀ l ∈ BEP, 45 ∉ l := by decide
  unfold rowT
  rw [par_no _ _ (n45 l h)]
  dsimp only
  rw [if_pos h]
theorem rowT_deed {x : Dt} (hx : x.Ok) {a : List Nat} (ha : ansT a = true) : rowT (x.t ++ (AR ++ a)) = some (.tup [.str "deed", x.d, .str (tx a)]) := by
  have n45 : 45 ∉ x.t := fun z => by have := hx.sig 45 z; omega
  unfold rowT
  rw [par_ar _ _ _ n45]
  show deedRowT x.t a = _
  unfold deedRowT
  rw [deedT_text hx]
  dsimp only
  rw [if_pos ha] <;> rfl
/-- a row and the text that writes it -/
def Good (t : List Nat) (d : D) : Prop := rowT t = some d ∧ 10 ∉ t ∧ t.length ≤ 3000 ∧ t ≠ [] ∧ ∀ c ∈ t, c < 1114112
theorem join_len60 {w : List Nat} {ts : List (List Nat)} (h : ∀ p ∈ w :: ts, p.length ≤ 60) : (TL.joinL [32] (w :: ts)).length ≤ (ts.length + 1) * 61 := by
  have h1 := joinL_len [32] (w :: ts)
  have h2 := lensum_le (k := 60) h
  rw [List.length_cons, List.length_cons, List.length_nil] at h1
  rw [List.length_cons] at h2
  omega
theorem good_bep {l : List Nat} (h : l ∈ BEP) : Good l (.tup [.str (tx l)]) := by
  have : ∀ l ∈ BEP, 10 ∉ l ∧ l.length ≤ 3000 ∧ l ≠ [] ∧ ∀ c ∈ l, c < 1114112 := by decide
  exact ⟨rowT_bep h, this l h⟩
theorem ne_head {l : List Nat} {c : Nat} (h : l.head? = some c) : l ≠ [] := fun z => by rw [z] at h; cases h
theorem good_freed {ns : List Nat} (h : Few ns) : Good (TL.joinL [32] (frW :: freedW ns)) (.tup [.str "freed", .vl (qqL ns)]) := by
  refine ⟨rowT_freed h, fun z => ?_, ?_, ne_head (join_head (c := 102) rfl), fun c hc => ?_⟩
  · rcases mem_join z with z | ⟨p, hp, z⟩
    · cases z
    · rcases List.mem_cons.mp hp with rfl | hp
      · exact absurd z (by decide)
      · obtain ⟨n, _, rfl⟩ := List.mem_map.mp hp
        exact (num_sg 10 z).2.2 rfl
  · have := join_len60 (w := frW) (ts := freedW ns) fun p hp => by
      rcases List.mem_cons.mp hp with rfl | hp
      · decide
      · obtain ⟨n, hn, rfl⟩ := List.mem_map.mp hp
        exact TL.numL_len (by decide) (h.2 n hn)
    have l2 : (freedW ns).length = ns.length := List.length_map _
    have := h.1
    omega
  · rcases mem_join hc with rfl | ⟨p, hp, z⟩
    · decide
    · rcases List.mem_cons.mp hp with rfl | hp
      · have : ∀ c ∈ frW, c < 1114112 := by decide
        exact this c z
      · obtain ⟨n, _, rfl⟩ := List.mem_map.mp hp
        have := TL.numL_digits n c z
        omega
theorem turnW_len : ∀ {P : List (List Nat)}, (∀ ns ∈ P, Few ns) → (turnW P).length ≤ P.length * 6
  | [], _ => Nat.zero_le _
  | ns :: P, h => by
    have e : turnW (ns :: P) = [124] :: (ns.map TL.numL ++ turnW P) := rfl
    have ih := turnW_len (P := P) fun m hm => h m (List.mem_cons_of_mem _ hm)
    have := (h ns List.mem_cons_self).1
    rw [e, List.length_cons, List.length_append, List.length_map, List.length_cons]
    omega
theorem good_turn {P : List (List Nat)} (hP : P.length = 7) (h : ∀ ns ∈ P, Few ns) : Good (TL.joinL [32] (tuW :: turnW P)) (.tup (.str "turn" :: lvL P)) := by
  refine ⟨rowT_turn hP h, fun z => ?_, ?_, ne_head (join_head (c := 116) rfl), fun c hc => ?_⟩
  · rcases mem_join z with z | ⟨p, hp, z⟩
    · cases z
    · exact (turnW_sg p hp 10 z).2.2 rfl
  · have := join_len60 (w := tuW) (ts := turnW P) fun p hp => by
      rcases List.mem_cons.mp hp with rfl | hp
      · decide
      · rcases turnW_mem hp with rfl | ⟨ns, hns, n, hn, rfl⟩
        · decide
        · exact TL.numL_len (by decide) ((h ns hns).2 n hn)
    have := turnW_len h
    omega
  · rcases mem_join hc with rfl | ⟨p, hp, z⟩
    · decide
    · rcases List.mem_cons.mp hp with rfl | hp
      · have : ∀ c ∈ tuW, c < 1114112 := by decide
        exact this c z
      · rcases turnW_mem hp with rfl | ⟨ns, hns, n, hn, rfl⟩
        · rw [List.mem_singleton.mp z]; decide
        · have := TL.numL_digits n c z
          omega
theorem good_deed {x : Dt} (hx : x.Ok) {a : List Nat} (ha : ansT a = true) (hl : a.length ≤ 60) (h10 : 10 ∉ a) : Good (x.t ++ (AR ++ a)) (.tup [.str "deed", x.d, .str (tx a)]) := by
  refine ⟨rowT_deed hx ha, fun z => ?_, ?_, fun z => ?_, fun c hc => ?_⟩
  · rcases List.mem_append.mp z with z | z
    · have := hx.sig 10 z
      omega
    · rcases List.mem_append.mp z with z | z
      · exact absurd z (by decide)
      · exact h10 z
  · have := hx.len
    rw [List.length_append, List.length_append]
    show _ + (4 + a.length) ≤ 3000
    omega
  · have : (x.t ++ (AR ++ a)).length = 0 := by rw [z] <;> rfl
    rw [List.length_append, List.length_append] at this
    have h4 : AR.length = 4 := rfl
    omega
  · rcases List.mem_append.mp hc with z | z
    · have := hx.sig c z
      omega
    · rcases List.mem_append.mp z with z | z
      · have : ∀ c ∈ AR, c < 1114112 := by decide
        exact this c z
      · exact ansT_sg ha c z

set_option Elab.async false
set_option linter.all false
set_option maxRecDepth 100000
set_option maxHeartbeats 4000000
/-! ### the law's text of a row -/
theorem de_tx : ("deed" : Str) = tx [100, 101, 101, 100] := tx_str (by decide +kernel)
theorem sb_tx : (" |" : Str) = tx [32, 124] := tx_str (by decide +kernel)
def numsW (ns : List Nat) : List Nat := (ns.map fun n => [32] ++ TL.numL n).flatten
theorem numsW_len : ∀ {ns : List Nat}, (∀ n ∈ ns, n < 10 ^ 60) → (numsW ns).length ≤ ns.length * 61
  | [], _ => Nat.zero_le _
  | n :: ns, h => by
    have ih := numsW_len (ns := ns) fun m hm => h m (List.mem_cons_of_mem _ hm)
    have l := TL.numL_len (k := 60) (by decide) (h n List.mem_cons_self)
    have e : numsW (n :: ns) = [32] ++ TL.numL n ++ numsW ns := rfl
    rw [e, List.length_append, List.length_append, List.length_cons, List.length_nil, List.length_cons]
    omega
noncomputable abbrev ltI' : MSt := (sClr [3] (sSet 1 (mOp2 (addD false) (mOp2 (addD false) (mVar 1) (mC (.str (tx [32])))) (mCB cStrS (aCons (mVar 3) aNil)))))
theorem lt_inner (row : D) (x : Option D) (S : Sto) : ∀ (ns : List Nat) (acc : List Nat), (∀ n ∈ ns, n < 10 ^ 60) → acc.length + ns.length * 61 ≤ 100000 → forX (.nm 3) ltI' (qqL ns) [some row, some (.str (tx acc)), x, none] S = .nx [some row, some (.str (tx (acc ++ numsW ns))), x, none] S
  | [], acc, _, _ => by
    rw [show qqL [] = [] from rfl, forX_nil, show numsW [] = [] from rfl, List.append_nil]
  | n :: ns, acc, h, hl => by
    have hn := h n List.mem_cons_self
    rw [List.length_cons, Nat.add_mul] at hl
    have l := TL.numL_len (k := 60) (by decide) hn
    have a1 := fun S => app_tx (tr := false) (a := acc) (b := [32]) (S := S) (by rw [List.length_cons, List.length_nil]; omega)
    have a2 := fun S => app_tx (tr := false) (a := acc ++ [32]) (b := TL.numL n) (S := S) (by rw [List.length_append, List.length_cons, List.length_nil]; omega)
    have st := fun S => strS_num (n := n) (S := S) (num_log hn)
    have ih := lt_inner row x S ns (acc ++ [32] ++ TL.numL n) (fun m hm => h m (List.mem_cons_of_mem _ hm)) (by simp only [List.length_append, List.length_cons, List.length_nil]; omega)
    have e : acc ++ numsW (n :: ns) = acc ++ [32] ++ TL.numL n ++ numsW ns := by
      show acc ++ ([32] ++ TL.numL n ++ numsW ns) = _
      simp
    have e1 : qqL (n :: ns) = .int (n : Int) :: qqL ns := rfl
    rw [e, e1]
    obtain ⟨R, hR⟩ : ∃ R, R = qqL ns := ⟨_, rfl⟩
    rw [← hR] at ih ⊢
    simp! only [a1, a2, st, ih]
noncomputable abbrev ltO : MSt := (sSeq (sIf (mTest (mOp2 eqR (mOp2 getI (mVar 0) (mC (.int 0))) (mC (.str (tx [116, 117, 114, 110])))))
 (sSet 1 (mOp2 (addD false) (mVar 1) (mC (.str (tx [32, 124])))))
 sNil)
 (sClr [2, 3] (sClr [3] (sAlt (sFor (miL (mVar 2)) (.nm 3)
 (sClr [3] (sSet 1 (mOp2 (addD false) (mOp2 (addD false) (mVar 1) (mC (.str (tx [32])))) (mCB cStrS (aCons (mVar 3) aNil)))))) (sLk (mVar 2) (sFor (miK (mVar 2)) (.nm 3)
 (sClr [3] (sSet 1 (mOp2 (addD false) (mOp2 (addD false) (mVar 1) (mC (.str (tx [32])))) (mCB cStrS (aCons (mVar 3) aNil)))))))))))
def bar (w : List Nat) : List Nat := if w = [116, 117, 114, 110] then [32, 124] else []
def listsW (w : List Nat) (P : List (List Nat)) : List Nat := (P.map fun ns => bar w ++ numsW ns).flatten
theorem lt_outer (w : List Nat) (X : List D) (S : Sto) : ∀ (P : List (List Nat)) (acc : List Nat), (∀ ns ∈ P, Few ns) → acc.length + P.length * 400 ≤ 50000 → forX (.nm 2) ltO (lvL P) [some (.tup (.str (tx w) :: X)), some (.str (tx acc)), none, none] S = .nx [some (.tup (.str (tx w) :: X)), some (.str (tx (acc ++ listsW w P))), none, none] S
  | [], acc, _, _ => by
    rw [show lvL [] = [] from rfl, forX_nil, show listsW w [] = [] from rfl, List.append_nil]
  | ns :: P, acc, h, hl => by
    have hn := h ns List.mem_cons_self
    rw [List.length_cons, Nat.add_mul] at hl
    have nl := numsW_len hn.2
    have h5 := hn.1
    have g0 : atI (D.str (tx w) :: X) 0 = some (.str (tx w)) := atI_nat (j := 0) rfl
    have e1 : lvL (ns :: P) = .vl (qqL ns) :: lvL P := rfl
    have ql : (qqL ns).length = ns.length := List.length_map _
    have rl : ((qqL ns).length < (qqL ns).length + 1) = True := eq_true (Nat.lt_succ_self _)
    rw [e1]
    by_cases hw : w = [116, 117, 114, 110]
    · have eb : bar w = [32, 124] := if_pos hw
      have a1 := fun S => app_tx (tr := false) (a := acc) (b := [32, 124]) (S := S) (by show acc.length + 2 ≤ _; omega)
      have inn := lt_inner (.tup (.str (tx w) :: X)) (some (.vl (qqL ns))) S ns (acc ++ [32, 124]) hn.2 (by rw [List.length_append]; show acc.length + 2 + _ ≤ _; omega)
      have ih := lt_outer w X S P (acc ++ [32, 124] ++ numsW ns) (fun m hm => h m (List.mem_cons_of_mem _ hm)) (by rw [List.length_append, List.length_append]; show acc.length + 2 + _ + _ ≤ _; omega)
      have e : acc ++ listsW w (ns :: P) = acc ++ [32, 124] ++ numsW ns ++ listsW w P := by
        show acc ++ (bar w ++ numsW ns ++ listsW w P) = _
        rw [eb]; simp
      rw [e]
      obtain ⟨R, hR⟩ : ∃ R, R = lvL P := ⟨_, rfl⟩
      obtain ⟨Q, hQ⟩ : ∃ Q, Q = qqL ns := ⟨_, rfl⟩
      rw [← hR] at ih ⊢
      rw [← hQ] at inn rl ⊢
      simp! only [g0, tx_deq, decide_eq_true hw, a1, for_fix, rl, inn, ih]
    · have eb : bar w = [] := if_neg hw
      have inn := lt_inner (.tup (.str (tx w) :: X)) (some (.vl (qqL ns))) S ns acc hn.2 (by omega)
      have ih := lt_outer w X S P (acc ++ numsW ns) (fun m hm => h m (List.mem_cons_of_mem _ hm)) (by rw [List.length_append]; omega)
      have e : acc ++ listsW w (ns :: P) = acc ++ numsW ns ++ listsW w P := by
        show acc ++ (bar w ++ numsW ns ++ listsW w P) = _
        rw [eb]; simp
      rw [e]
      obtain ⟨R, hR⟩ : ∃ R, R = lvL P := ⟨_, rfl⟩
      obtain ⟨Q, hQ⟩ : ∃ Q, Q = qqL ns := ⟨_, rfl⟩
      rw [← hR] at ih ⊢
      rw [← hQ] at inn rl ⊢
      simp! only [g0, tx_deq, decide_eq_false hw, for_fix, rl, inn, ih]
theorem text_lists {w : List Nat} (hw : w ≠ [100, 101, 101, 100]) (hwl : w.length ≤ 10) {P : List (List Nat)} (hP : ∀ ns ∈ P, Few ns) (hl : P.length ≤ 7) (S : Sto) : f_law_log_text [.tup (.str (tx w) :: lvL P)] S = .ok (.str (tx (w ++ listsW w P))) S := by
  unfold f_law_log_text b_law_log_text
  rw [de_tx, sb_tx, tu_tx, bl_tx]
  have g0 : atI (D.str (tx w) :: lvL P) 0 = some (.str (tx w)) := atI_nat (j := 0) rfl
  have lo := lt_outer w (lvL P) S P w hP (by omega)
  have itT_ : ∀ S, itT (.tup (lvL P)) S = some ⟨fixGet (lvL P), (lvL P).length + 1⟩ := fun _ => rfl
  have rl : ((lvL P).length < (lvL P).length + 1) = True := eq_true (Nat.lt_succ_self _)
  obtain ⟨R, hR⟩ : ∃ R, R = lvL P := ⟨_, rfl⟩
  rw [← hR] at lo itT_ g0 rl ⊢
  simp! only [g0, tx_deq, decide_eq_false hw, cutW, itT_, for_fix, rl, lo]
theorem text_deed {x : Dt} (hx : x.Ok) {a : List Nat} (ha : a.length ≤ 60) (S : Sto) : f_law_log_text [.tup [.str "deed", x.d, .str (tx a)]] S = .ok (.str (tx (x.t ++ (AR ++ a)))) S := by
  unfold f_law_log_text b_law_log_text
  rw [ar_tx]
  have xl := hx.len
  have rs := fun S => law_row_spec hx S
  have a1 := fun S => app_tx (tr := false) (a := x.t) (b := [32, 45, 62, 32]) (S := S) (by show _ + 4 ≤ _; omega)
  have a2 := fun S => app_tx (tr := false) (a := x.t ++ [32, 45, 62, 32]) (b := a) (S := S) (by rw [List.length_append]; show _ + 4 + _ ≤ _; omega)
  have e : x.t ++ (AR ++ a) = x.t ++ [32, 45, 62, 32] ++ a := by simp
  rw [e]
  obtain ⟨X, hX⟩ : ∃ X, X = x.d := ⟨_, rfl⟩
  rw [← hX] at rs ⊢
  have g0 : atI [D.str "deed", X, .str (tx a)] 0 = some (.str "deed") := rfl
  have g1 : atI [D.str "deed", X, .str (tx a)] 1 = some X := rfl
  have g2 : atI [D.str "deed", X, .str (tx a)] 2 = some (.str (tx a)) := rfl
  simp! only [g0, g1, g2, rs, a1, a2]
theorem freed_text (ns : List Nat) : frW ++ listsW frW [ns] = TL.joinL [32] (frW :: freedW ns) := by
  have eb : bar frW = [] := if_neg (by decide)
  rw [joinL_flat]
  show frW ++ (bar frW ++ numsW ns ++ []) = _
  rw [eb, List.append_nil, List.nil_append]
  unfold numsW freedW
  rw [List.map_map] <;> rfl
theorem turn_text : ∀ (P : List (List Nat)), listsW tuW P = ((turnW P).map fun t => [32] ++ t).flatten
  | [] => rfl
  | ns :: P => by
    have eb : bar tuW = [32, 124] := if_pos rfl
    have e : turnW (ns :: P) = [124] :: (ns.map TL.numL ++ turnW P) := rfl
    show bar tuW ++ numsW ns ++ listsW tuW P = _
    rw [eb, e, turn_text P, List.map_cons, List.map_append, List.flatten_cons, List.flatten_append, List.map_map]
    unfold numsW
    rw [List.append_assoc] <;> rfl
theorem turn_text' (P : List (List Nat)) : tuW ++ listsW tuW P = TL.joinL [32] (tuW :: turnW P) := by
  rw [joinL_flat, turn_text]
inductive Sh : List Nat → D → Prop
  | deed {x : Dt} {a : List Nat} : x.Ok → ansT a = true → a.length ≤ 60 → 10 ∉ a → Sh (x.t ++ (AR ++ a)) (.tup [.str "deed", x.d, .str (tx a)])
  | bep {l : List Nat} : l ∈ BEP → Sh l (.tup [.str (tx l)])
  | freed {ns : List Nat} : Few ns → Sh (TL.joinL [32] (frW :: freedW ns)) (.tup [.str "freed", .vl (qqL ns)])
  | turn {P : List (List Nat)} : P.length = 7 → (∀ ns ∈ P, Few ns) → Sh (TL.joinL [32] (tuW :: turnW P)) (.tup (.str "turn" :: lvL P))
theorem Sh.good {t : List Nat} {d : D} (h : Sh t d) : Good t d := by
  cases h with
  | deed a b c e => exact good_deed a b c e
  | bep a => exact good_bep a
  | freed a => exact good_freed a
  | turn a b => exact good_turn a b
/-! ### a row by a number -/
theorem b60 : ∃ B : Int, 0 < B ∧ B.natAbs < 2 ^ 2000 ∧ (∀ n : Int, 0 ≤ n → n < B → n.toNat < 10 ^ 60) ∧ ∀ S, intOp powI (.int 10) (.int 60) S = .ok (.int B) S := by
  obtain ⟨B, B0, hB⟩ := p60
  have hBe : B = 10 ^ 60 := by
    have := hB []
    rw [pow_int ⟨by decide, by decide, by decide⟩] at this
    injection this with this
    injection this with this
    exact this.symm
  refine ⟨B, B0, by rw [hBe]; decide +kernel, fun n h0 h1 => ?_, hB⟩
  rw [hBe] at h1
  have : ((10 : Int) ^ 60) = ((10 ^ 60 : Nat) : Int) := by decide +kernel
  omega
theorem scp_genB {ρ ρ' : Rho} {S T : Sto} (h : optAll (fzSlot (S ++ T) S.length) ρ = some ρ') : scpR S (.nx ρ (S ++ T)) = .nx ρ' S := by
  rw [scp_nx_app]
  have : fzRho (S ++ T) S.length ρ = some ρ' := h
  rw [this, scpE_some, take_app]
theorem fs_pureB {d : D} {S : Sto} {n : Nat} (hp : d.pureB = true) : fzSlot S n (some d) = some (some d) := by
  have h : fzD S n 8 d = some d := fz_pure hp
  unfold fzSlot
  dsimp only
  rw [h]
theorem fs_lstB {S : Sto} {xs : List D} (hx : pureAll xs = true) : fzSlot (S ++ [.lst xs]) S.length (some (.loc S.length)) = some (some (.vl xs)) := by
  have h : fzD (S ++ [.lst xs]) S.length 8 (.loc S.length) = some (.vl xs) := by
    rw [fz_loc0, get_last]
    exact kFz_lst hx
  unfold fzSlot
  dsimp only
  rw [h]
noncomputable abbrev nmB : MSt := (sSeq (sExpr (mBM isL lAppend (mVar 2) (aCons (mOp2 getI (mLst false (aCons (mOp2 (intOp modI) (mVar 0) (mC (.int 20))) (aCons (mOp2 (intOp modI) (mVar 0) (mOp2 (intOp powI) (mC (.int 10)) (mC (.int 60)))) aNil))) (mCB cInt (aCons (mOp2 eqR (mOp2 (intOp modI) (mOp2 (intOp fdivI) (mVar 0) (mC (.int 20))) (mC (.int 9))) (mC (.int 8))) aNil))) aNil)))
 (sClr [3] (sSet 0 (mOp2 (intOp fdivI) (mVar 0) (mC (.int 180))))))
theorem qqL_snoc (ns : List Nat) (n : Nat) : qqL ns ++ [.int (n : Int)] = qqL (ns ++ [n]) := by unfold qqL; rw [List.map_append] <;> rfl
theorem nm_loop (many : D) : ∀ (k : Nat) (acc : List Nat) (n lo : Int), 0 ≤ n → n.natAbs < 2 ^ 1048576 → acc.length + k ≤ 100 → ∃ (ns : List Nat) (n' : Int), ns.length = k ∧ (∀ m ∈ ns, m < 10 ^ 60) ∧ 0 ≤ n' ∧ n'.natAbs < 2 ^ 1048576 ∧ ∀ S : Sto,
    forX (.nm 3) nmB (rngL lo k) [some (.int n), some many, some (.loc S.length), none] (S ++ [.lst (qqL acc)]) = .nx [some (.int n'), some many, some (.loc S.length), none] (S ++ [.lst (qqL (acc ++ ns))])
  | 0, acc, n, lo, h0, hb, _ => ⟨[], n, rfl, fun m hm => (nomatch hm), h0, hb, fun S => by rw [rngL_0, forX_nil, List.append_nil]⟩
  | k + 1, acc, n, lo, h0, hb, hl => by
    obtain ⟨B, B0, B1, B2, pB⟩ := b60
    have m20 := fun S => mod_int (S := S) (i := n) (j := 20) (by decide)
    have mB := fun S => mod_int (S := S) (i := n) (j := B) B0
    have d20 := fun S => fdiv_int (S := S) (i := n) (j := 20) (by decide) (by decide)
    have m9 := fun S => mod_int (S := S) (i := n / 20) (j := 9) (by decide)
    have d180 := fun S => fdiv_int (S := S) (i := n) (j := 180) (by decide) (by decide)
    obtain ⟨m, hm, em⟩ : ∃ m : Nat, m < 10 ^ 60 ∧ ∀ S, kLk (atI [D.int (n % 20), .int (n % B)] (if decide (n / 20 % 9 = 8) then 1 else 0)) S = .ok (.int (m : Int)) S := by
      cases decide (n / 20 % 9 = 8) with
      | true =>
        have h1 : 0 ≤ n % B := Int.emod_nonneg _ (by omega)
        have h2 : n % B < B := Int.emod_lt_of_pos _ B0
        refine ⟨(n % B).toNat, B2 _ h1 h2, fun S => ?_⟩
        have e : (((n % B).toNat : Nat) : Int) = n % B := by omega
        rw [e] <;> rfl
      | false =>
        have h1 : 0 ≤ n % 20 := Int.emod_nonneg _ (by decide)
        have h2 : n % 20 < 20 := Int.emod_lt_of_pos _ (by decide)
        refine ⟨(n % 20).toNat, Nat.lt_of_lt_of_le (show (n % 20).toNat < 20 by omega) (by decide +kernel), fun S => ?_⟩
        have e : (((n % 20).toNat : Nat) : Int) = n % 20 := by omega
        rw [e] <;> rfl
    have q0 : 0 ≤ n / 180 := Int.ediv_nonneg h0 (by decide)
    have qle : n / 180 ≤ n := Int.ediv_le_self _ h0
    obtain ⟨ns, n', h1, h2, h3, h4, h5⟩ := nm_loop many k (acc ++ [m]) (n / 180) (lo + 1) q0 (Nat.lt_of_le_of_lt (by omega) hb) (by rw [List.length_append, List.length_cons, List.length_nil]; omega)
    refine ⟨m :: ns, n', by rw [List.length_cons, h1], fun x hx => ?_, h3, h4, fun S => ?_⟩
    · rcases List.mem_cons.mp hx with rfl | hx
      · exact hm
      · exact h2 x hx
    · have gl : (S ++ [O.lst (qqL acc)])[S.length]? = some (.lst (qqL acc)) := get_last _ _
      have lt : ((qqL acc).length < sizeLine) = True := lt_line (by unfold qqL; rw [List.length_map]; omega)
      have h5' := h5 S
      rw [List.append_assoc] at h5'
      have sn := qqL_snoc acc m
      rw [rngL_s]
      obtain ⟨R, hR⟩ : ∃ R, R = rngL (lo + 1) k := ⟨_, rfl⟩
      rw [← hR] at h5' ⊢
      simp! only [m20, pB, mB, d20, m9, em, gl, lt, set_last, sn, d180, h5']
theorem law_numbers_spec {n : Int} (h0 : 0 ≤ n) (hb : n.natAbs < 2 ^ 1048576) {k : Nat} (hk : k ≤ 5) : ∃ (ns : List Nat) (n' : Int), Few ns ∧ 0 ≤ n' ∧ n'.natAbs < 2 ^ 1048576 ∧ ∀ S, f_law_numbers [.int n, .int (k : Int)] S = .ok (.tup [.vl (qqL ns), .int n']) S := by
  obtain ⟨ns, n', h1, h2, h3, h4, h5⟩ := nm_loop (.int (k : Int)) k [] n 0 h0 hb (by rw [List.length_nil]; omega)
  refine ⟨ns, n', ⟨by omega, h2⟩, h3, h4, fun S => ?_⟩
  unfold f_law_numbers b_law_numbers
  have h5' := h5 S
  rw [List.nil_append] at h5'
  have h6 : forX (.nm 3) nmB (rngL 0 k) [some (.int n), some (.int (k : Int)), some (.loc S.length), none] (S ++ [.lst []]) = .nx [some (.int n'), some (.int (k : Int)), some (.loc S.length), none] (S ++ [.lst (qqL ns)]) := h5'
  have rg := fun S => rg1n (n := k) (S := S) (by omega)
  have rl : ((rngL 0 k).length < k + 1) = True := by rw [rngL_len]; exact eq_true (Nat.lt_succ_self _)
  have qp := qqL_pure ns
  obtain ⟨Q, hQ⟩ : ∃ Q, Q = qqL ns := ⟨_, rfl⟩
  rw [← hQ] at h6 qp ⊢
  have sc : scpR S (.nx [some (.int n'), some (.int (k : Int)), some (.loc S.length), none] (S ++ [.lst Q])) = .nx [some (.int n'), some (.int (k : Int)), some (.vl Q), none] S :=
    scp_genB (optAll_cons (fs_pureB rfl) (optAll_cons (fs_pureB rfl) (optAll_cons (fs_lstB qp) rfl)))
  obtain ⟨R, hR⟩ : ∃ R, R = rngL 0 k := ⟨_, rfl⟩
  rw [← hR] at h6 rl rg
  simp! only [rg, for_fix, rl, h6, sc]
theorem drn3 {a b c : Int} {ds : List Int} (h : Drn [a, b, c] ds) : ∃ x0 x1 x2, ds = [x0, x1, x2] ∧ (0 ≤ x0 ∧ x0 < a) ∧ (0 ≤ x1 ∧ x1 < b) ∧ (0 ≤ x2 ∧ x2 < c) := by
  obtain ⟨hl, h⟩ := h
  match ds, hl with
  | [x0, x1, x2], _ => exact ⟨x0, x1, x2, rfl, h 0 _ _ rfl rfl, h 1 _ _ rfl rfl, h 2 _ _ rfl rfl⟩
noncomputable abbrev tuB : MSt := (sSeq (sAsg (.tp [9, 5]) (mCall 2 f_law_numbers (aCons (mOp2 (intOp fdivI) (mVar 5) (mC (.int 6))) (aCons (mOp2 getI (mLst false (aCons (mOp2 (intOp modI) (mVar 5) (mC (.int 6))) (aCons (mC (.int 0)) aNil))) (mOp2 (intOp modI) (mVar 2) (mC (.int 2)))) aNil))))
 (sClr [8, 9] (sExpr (mBM isL lAppend (mVar 7) (aCons (mVar 9) aNil)))))
theorem lvL_snoc (P : List (List Nat)) (ns : List Nat) : lvL P ++ [.vl (qqL ns)] = lvL (P ++ [ns]) := by unfold lvL; rw [List.map_append] <;> rfl
theorem tu_loop (c fr many ans : D) (w : Int) : ∀ (k : Nat) (acc : List (List Nat)) (n lo : Int), 0 ≤ n → n.natAbs < 2 ^ 1048576 → acc.length + k ≤ 100 → ∃ (P : List (List Nat)) (n' : Int), P.length = k ∧ (∀ ns ∈ P, Few ns) ∧ ∀ S : Sto,
    forX (.nm 8) tuB (rngL lo k) [some c, some fr, some (.int w), some many, some ans, some (.int n), none, some (.loc S.length), none, none] (S ++ [.lst (lvL acc)]) = .nx [some c, some fr, some (.int w), some many, some ans, some (.int n'), none, some (.loc S.length), none, none] (S ++ [.lst (lvL (acc ++ P))])
  | 0, acc, n, lo, _, _, _ => ⟨[], n, rfl, fun m hm => (nomatch hm), fun S => by rw [rngL_0, forX_nil, List.append_nil]⟩
  | k + 1, acc, n, lo, h0, hb, hl => by
    have d6 := fun S => fdiv_int (S := S) (i := n) (j := 6) (by decide) (by decide)
    have m6 := fun S => mod_int (S := S) (i := n) (j := 6) (by decide)
    have m2 := fun S => mod_int (S := S) (i := w) (j := 2) (by decide)
    have q0 : 0 ≤ n / 6 := Int.ediv_nonneg h0 (by decide)
    have qle : n / 6 ≤ n := Int.ediv_le_self _ h0
    have hbq : (n / 6).natAbs < 2 ^ 1048576 := Nat.lt_of_le_of_lt (by omega) hb
    obtain ⟨m, hm, em⟩ : ∃ m : Nat, m ≤ 5 ∧ ∀ S, kLk (atI [D.int (n % 6), .int 0] (w % 2)) S = .ok (.int (m : Int)) S := by
      have h1 : 0 ≤ n % 6 := Int.emod_nonneg _ (by decide)
      have h2 : n % 6 < 6 := Int.emod_lt_of_pos _ (by decide)
      rcases (show w % 2 = 0 ∨ w % 2 = 1 by omega) with e | e
      · refine ⟨(n % 6).toNat, by omega, fun S => ?_⟩
        have e2 : (((n % 6).toNat : Nat) : Int) = n % 6 := by omega
        rw [e, e2] <;> rfl
      · exact ⟨0, by decide, fun S => by rw [e] <;> rfl⟩
    obtain ⟨ns, n1, hf, h3, h4, hs⟩ := law_numbers_spec q0 hbq hm
    obtain ⟨P, n', p1, p2, p3⟩ := tu_loop c fr many ans w k (acc ++ [ns]) n1 (lo + 1) h3 h4 (by rw [List.length_append, List.length_cons, List.length_nil]; omega)
    refine ⟨ns :: P, n', by rw [List.length_cons, p1], fun x hx => ?_, fun S => ?_⟩
    · rcases List.mem_cons.mp hx with rfl | hx
      · exact hf
      · exact p2 x hx
    · have gl : (S ++ [O.lst (lvL acc)])[S.length]? = some (.lst (lvL acc)) := get_last _ _
      have lt : ((lvL acc).length < sizeLine) = True := lt_line (by rw [lvL_len]; omega)
      have p3' := p3 S
      rw [List.append_assoc] at p3'
      have sn := lvL_snoc acc ns
      rw [rngL_s]
      obtain ⟨R, hR⟩ : ∃ R, R = rngL (lo + 1) k := ⟨_, rfl⟩
      obtain ⟨Q, hQ⟩ : ∃ Q, Q = qqL ns := ⟨_, rfl⟩
      obtain ⟨A, hA⟩ : ∃ A, A = lvL acc := ⟨_, rfl⟩
      rw [← hR] at p3' ⊢
      rw [← hQ] at hs sn
      rw [← hA] at gl lt sn ⊢
      simp! only [d6, m6, m2, em, hs, r_itemsT, gl, lt, set_last, sn, p3']
theorem cStr_num {n : Nat} {S : Sto} (h : n.log2 < 1920) : cStr [.int (n : Int)] S = .ok (.str (tx (TL.numL n))) S := strS_num h
def AnsOk (a : List Nat) : Prop := ansT a = true ∧ a.length ≤ 60 ∧ 10 ∉ a
theorem ans_num {n : Nat} (h : n < 10 ^ 60) : AnsOk (TL.numL n) := by
  refine ⟨?_, TL.numL_len (by decide) h, fun z => (num_sg 10 z).2.2 rfl⟩
  unfold ansT
  rw [numT_num h, Bool.or_eq_true]
  exact .inr rfl
def AL : List (List Nat) := ANS ++ [[48]]
theorem AL_ok : ∀ a ∈ AL, AnsOk a := by
  have h1 : ∀ a ∈ AL, ansT a = true := by decide +kernel
  have h2 : ∀ a ∈ AL, a.length ≤ 60 ∧ 10 ∉ a := by decide
  exact fun a ha => ⟨h1 a ha, h2 a ha⟩
theorem AL_tx : ([D.str "ok", .str "yes", .str "no", .str "none", .str "thing", .str "nothing", .str "no thing", .str "no field", .str "no room", .str "0"] : List D) = rowsD AL := by
  have z0 : ("0" : Str) = tx [48] := tx_str (by decide +kernel)
  have h : (["ok", "yes", "no", "none", "thing", "nothing", "no thing", "no field", "no room"] : List Str) = ANS.map tx := c_ans
  have h2 : ([D.str "ok", .str "yes", .str "no", .str "none", .str "thing", .str "nothing", .str "no thing", .str "no field", .str "no room"] : List D) = rowsD ANS := by
    have := congrArg (List.map D.str) h
    rw [List.map_map] at this
    exact this
  have e : rowsD AL = rowsD ANS ++ [.str (tx [48])] := by
    unfold rowsD AL
    rw [List.map_append] <;> rfl
  rw [e, ← h2, ← z0] <;> rfl
theorem law_log_row_spec {c : Int} (hb : c.natAbs < 2 ^ 1048576) (fr : Bool) : ∃ (t : List Nat) (d : D), Sh t d ∧ (∀ S, f_law_log_row [.int c, .bl fr] S = .ok d S) ∧ (∀ S, f_law_log_text [d] S = .ok (.str (tx t)) S) := by
  obtain ⟨ds, r, hd, r0, rb, edr⟩ := law_drawn_spec (sz := [12, 6, 12]) (by
    intro s hs
    simp only [List.mem_cons, List.not_mem_nil, or_false] at hs
    rcases hs with rfl | rfl | rfl
    all_goals exact ⟨by decide, by decide⟩) (show (3 : Nat) ≤ 1000 by decide) hb fr
  obtain ⟨w, mn, an, rfl, hw, hm, ha⟩ := drn3 hd
  have edr' : ∀ S, f_law_drawn [.int c, .vl [.int 12, .int 6, .int 12], .bl fr] S = .ok (.vl [.int w, .int mn, .int an, .int r]) S := edr
  by_cases h7 : w < 7
  · -- a deed
    have d7 := fun S => fdiv_int (S := S) (i := r) (j := 7) (by decide) (by decide)
    have hq : (r / 7).natAbs < 2 ^ 1048576 := by
      have q0 : 0 ≤ r / 7 := Int.ediv_nonneg r0 (by decide)
      have qle : r / 7 ≤ r := Int.ediv_le_self _ r0
      exact Nat.lt_of_le_of_lt (by omega) rb
    obtain ⟨x, hx, ex⟩ := law_deed_by_spec hq true
    obtain ⟨B, B0, B1, B2, pB⟩ := b60
    have mB := fun S => mod_int (S := S) (i := r) (j := B) B0
    have mk := fun S => mod_int (S := S) (i := r) (j := 1000) (by decide)
    obtain ⟨m1, hm1, e1⟩ : ∃ m : Nat, m < 10 ^ 60 ∧ r % 1000 = (m : Int) := by
      have h1 : 0 ≤ r % 1000 := Int.emod_nonneg _ (by decide)
      have h2 : r % 1000 < 1000 := Int.emod_lt_of_pos _ (by decide)
      exact ⟨(r % 1000).toNat, Nat.lt_of_lt_of_le (show (r % 1000).toNat < 1000 by omega) (by decide +kernel), by omega⟩
    obtain ⟨m2, hm2, e2⟩ : ∃ m : Nat, m < 10 ^ 60 ∧ r % B = (m : Int) := by
      have h1 : 0 ≤ r % B := Int.emod_nonneg _ (by omega)
      have h2 : r % B < B := Int.emod_lt_of_pos _ B0
      exact ⟨(r % B).toNat, B2 _ h1 h2, by omega⟩
    have s1 := fun S => cStr_num (n := m1) (S := S) (num_log hm1)
    have s2 := fun S => cStr_num (n := m2) (S := S) (num_log hm2)
    obtain ⟨A, hA⟩ : ∃ A, A = AL ++ [TL.numL m1, TL.numL m2] := ⟨_, rfl⟩
    have Al : A.length = 12 := by rw [hA] <;> rfl
    have Aok : ∀ a ∈ A, AnsOk a := fun a h => by
      rw [hA] at h
      rcases List.mem_append.mp h with h | h
      · exact AL_ok a h
      · rcases List.mem_cons.mp h with rfl | h
        · exact ans_num hm1
        · rw [List.mem_singleton.mp h]; exact ans_num hm2
    obtain ⟨k, hk, rfl⟩ : ∃ k : Nat, k < A.length ∧ an = (k : Int) := ⟨an.toNat, by omega, by omega⟩
    have ga : atI (rowsD A) (k : Int) = some (.str (tx A[k])) := atI_nat (by unfold rowsD; rw [List.getElem?_map, List.getElem?_eq_getElem hk] <;> rfl)
    have ca : ∀ S, catL false (some [D.str "ok", .str "yes", .str "no", .str "none", .str "thing", .str "nothing", .str "no thing", .str "no field", .str "no room", .str "0"]) (some [.str (tx (TL.numL m1)), .str (tx (TL.numL m2))]) S = .ok (.vl (rowsD A)) S := fun S => by
      rw [AL_tx, catL_ok (show (rowsD AL).length + 2 ≤ sizeLine by rw [show (rowsD AL).length = 10 from rfl, le_line (by decide)]; trivial)]
      have e : rowsD AL ++ [.str (tx (TL.numL m1)), .str (tx (TL.numL m2))] = rowsD A := by
        rw [hA]
        unfold rowsD
        rw [List.map_append] <;> rfl
      rw [e]
      exact newL_f (rows_pure A)
    have ok := Aok _ (List.getElem_mem hk)
    refine ⟨x.t ++ (AR ++ A[k]), .tup [.str "deed", x.d, .str (tx A[k])], Sh.deed hx ok.1 ok.2.1 ok.2.2, fun S => ?_, fun S => text_deed hx ok.2.1 S⟩
    obtain ⟨z, hz⟩ : ∃ z, z = A[k] := ⟨_, rfl⟩
    rw [← hz] at ga ⊢
    obtain ⟨RA, hRA⟩ : ∃ RA, RA = rowsD A := ⟨_, rfl⟩
    rw [← hRA] at ga ca
    unfold f_law_log_row b_law_log_row
    simp! only [edr', r_itemsT, decide_eq_true h7, mk, e1, s1, pB, mB, e2, s2, ca, d7, ex, ga]
  · have n7 : decide (w < 7) = false := decide_eq_false h7
    by_cases h9 : w < 9
    · -- freed
      obtain ⟨k, hk, rfl⟩ : ∃ k : Nat, k ≤ 5 ∧ mn = (k : Int) := ⟨mn.toNat, by omega, by omega⟩
      obtain ⟨ns, n', hf, _, _, hs⟩ := law_numbers_spec r0 rb hk
      refine ⟨_, _, Sh.freed hf, fun S => ?_, fun S => ?_⟩
      · obtain ⟨Q, hQ⟩ : ∃ Q, Q = qqL ns := ⟨_, rfl⟩
        rw [← hQ] at hs ⊢
        have g0 : atI [D.vl Q, .int n'] 0 = some (.vl Q) := rfl
        unfold f_law_log_row b_law_log_row
        simp! only [edr', r_itemsT, n7, decide_eq_true h9, hs, g0]
      · have := text_lists (w := frW) (by decide) (by decide) (P := [ns]) (fun m hm => by rw [List.mem_singleton.mp hm]; exact hf) (show 1 ≤ 7 by decide) S
        rw [freed_text, ← fr_tx] at this
        exact this
    · have n9 : decide (w < 9) = false := decide_eq_false h9
      by_cases he : w = 9
      · -- begin, end, packed
        have m3 := fun S => mod_int (S := S) (i := mn) (j := 3) (by decide)
        obtain ⟨k, hk, ek⟩ : ∃ k : Nat, k < BEP.length ∧ mn % 3 = (k : Int) := by
          have h1 : 0 ≤ mn % 3 := Int.emod_nonneg _ (by decide)
          have h2 : mn % 3 < 3 := Int.emod_lt_of_pos _ (by decide)
          exact ⟨(mn % 3).toNat, by show _ < 3; omega, by omega⟩
        have eB : ([D.str "begin", .str "end", .str "packed"] : List D) = rowsD BEP := by
          have := congrArg (List.map D.str) bep_tx
          rw [List.map_map] at this
          exact this
        have ga : ∀ S, kLk (atI [D.str "begin", .str "end", .str "packed"] (k : Int)) S = .ok (.str (tx BEP[k])) S := fun S => by
          rw [eB, atI_nat (v := .str (tx BEP[k])) (by unfold rowsD; rw [List.getElem?_map, List.getElem?_eq_getElem hk] <;> rfl)] <;> rfl
        have mem : BEP[k] ∈ BEP := List.getElem_mem hk
        obtain ⟨z, hz⟩ : ∃ z, z = BEP[k] := ⟨_, rfl⟩
        rw [← hz] at ga mem
        refine ⟨z, .tup [.str (tx z)], Sh.bep mem, fun S => ?_, fun S => ?_⟩
        · unfold f_law_log_row b_law_log_row
          simp! only [edr', r_itemsT, n7, n9, decide_eq_true he, m3, ek, ga]
        · have hz2 : ∀ b ∈ BEP, b ≠ [100, 101, 101, 100] ∧ b.length ≤ 10 := by decide
          have := text_lists (w := z) (hz2 z mem).1 (hz2 z mem).2 (P := []) (fun m hm => nomatch hm) (by decide) S
          rw [show listsW z [] = [] from rfl, List.append_nil] at this
          exact this
      · -- a turn
        obtain ⟨P, n', hP, hF, lp⟩ := tu_loop (.int c) (.bl fr) (.int mn) (.int an) w 7 [] r 0 r0 rb (by decide)
        refine ⟨_, _, Sh.turn hP hF, fun S => ?_, fun S => ?_⟩
        · have lp' := lp S
          rw [List.nil_append] at lp'
          have lp2 : forX (.nm 8) tuB (rngL 0 7) [some (.int c), some (.bl fr), some (.int w), some (.int mn), some (.int an), some (.int r), none, some (.loc S.length), none, none] (S ++ [.lst []]) = .nx [some (.int c), some (.bl fr), some (.int w), some (.int mn), some (.int an), some (.int n'), none, some (.loc S.length), none, none] (S ++ [.lst (lvL P)]) := lp'
          have xp := lvL_pure P
          have xl := lvL_len P
          obtain ⟨X, hX⟩ : ∃ X, X = lvL P := ⟨_, rfl⟩
          rw [← hX] at lp2 xp xl ⊢
          have sc : scpR S (.nx [some (.int c), some (.bl fr), some (.int w), some (.int mn), some (.int an), none, none, some (.loc S.length), none, none] (S ++ [.lst X])) = .nx [some (.int c), some (.bl fr), some (.int w), some (.int mn), some (.int an), none, none, some (.vl X), none, none] S :=
            scp_genB (optAll_cons (fs_pureB rfl) (optAll_cons (fs_pureB rfl) (optAll_cons (fs_pureB rfl) (optAll_cons (fs_pureB rfl) (optAll_cons (fs_pureB rfl) (optAll_cons rfl (optAll_cons rfl (optAll_cons (fs_lstB xp) rfl))))))))
          have rg : ∀ S, itR1 [.int 7] S = some ⟨fixGet (rngL 0 7), 8⟩ := fun S => rg1n (n := 7) (by decide)
          have rl : ((rngL 0 7).length < 8) = True := by rw [rngL_len]; exact eq_true (by decide)
          have ctc : ∀ S, catT (.tup [.str "turn"]) (.tup X) S = .ok (.tup (.str "turn" :: X)) S := fun S => catT_ok (by rw [xl, hP, le_line (by decide)])
          have ctp : ∀ S, cTuple [.vl X] S = .ok (.tup X) S := fun _ => rfl
          obtain ⟨R, hR⟩ : ∃ R, R = rngL 0 7 := ⟨_, rfl⟩
          rw [← hR] at lp2 rg rl
          unfold f_law_log_row b_law_log_row
          simp! only [edr', r_itemsT, n7, n9, decide_eq_false he, rg, for_fix, rl, lp2, sc, ctc, ctp]
        · have := text_lists (w := tuW) (by decide) (by decide) hF (by omega) S
          rw [turn_text', ← tu_tx] at this
          exact this

set_option Elab.async false
set_option linter.all false
set_option maxRecDepth 100000
set_option maxHeartbeats 4000000
/-! ### rows whose lists stand in the store -/
noncomputable def lcW8 (it : MIt) (t : Tg) (tt : MTs) (me : MEx) (ρ : Rho) (S : Sto) : Res D := exitR false S (lcGo it t tt me ρ S.length it.fuel 0 (S ++ [.lst []]))
theorem kLV_l8 {l k : Nat} {t : Tg} {tt : MTs} {me : MEx} {own : List Nat} {ρ : Rho} {S : Sto} : kLV S (.ok ⟨lstGet l, k⟩ S) t tt me own ρ = lcW8 ⟨lstGet l, k⟩ t tt me (clr own ρ) S := rfl
noncomputable def lcT8 (it : MIt) (t : Tg) (tt : MTs) (me : MEx) (ρ : Rho) (S : Sto) : Res D := lcGo it t tt me ρ S.length it.fuel 0 (S ++ [.lst []])
theorem kLc_T8 {it : MIt} {t : Tg} {tt : MTs} {me : MEx} {own : List Nat} {ρ : Rho} {S : Sto} : kLc (.ok it S) t tt me own ρ = lcT8 it t tt me (clr own ρ) S := rfl
theorem lcT8_map {t : Tg} {me : MEx} {ρ : Rho} {S : Sto} {xs : List D} {it : MIt} (hf : it.fuel = xs.length + 1) (hg : ∀ i acc, it.get i (S ++ [.lst acc]) = some xs[i]?) (f : D → D)
    (h : ∀ x ∈ xs, ∀ acc, ∃ ρ1, tgM t x ρ (S ++ [.lst acc]) = some ρ1 ∧ me ρ1 (S ++ [.lst acc]) = .ok (f x) (S ++ [.lst acc])) (hl : xs.length ≤ 100000) :
    lcT8 it t tYesM me ρ S = .ok (.loc S.length) (S ++ [.lst (xs.map f)]) :=
  lc_pureL xs f (fun i acc _ => hg i acc) h hl (by rw [hf]; omega)
theorem lcW8_map {t : Tg} {me : MEx} {ρ : Rho} {S : Sto} {xs : List D} {it : MIt} (hf : it.fuel = xs.length + 1) (hg : ∀ i acc, it.get i (S ++ [.lst acc]) = some xs[i]?) (f : D → D)
    (h : ∀ x ∈ xs, ∀ acc, ∃ ρ1, tgM t x ρ (S ++ [.lst acc]) = some ρ1 ∧ me ρ1 (S ++ [.lst acc]) = .ok (f x) (S ++ [.lst acc])) (hl : xs.length ≤ 100000) (hp : pureAll (xs.map f) = true) :
    lcW8 it t tYesM me ρ S = .ok (.vl (xs.map f)) S := by
  show exitR false S (lcT8 it t tYesM me ρ S) = _
  rw [lcT8_map hf hg f h hl, exit_app, ite_f, exK_none, fz_loc0, get_last, kFz_lst hp, exO_some, take_app]
theorem lst_at {S T : Sto} {xs : List D} : ∀ i acc, lstGet S.length i ((S ++ .lst xs :: T) ++ [.lst acc]) = some xs[i]? := fun i acc => lstGet_ok (by
  rw [List.append_assoc, List.getElem?_append_right (Nat.le_refl _), Nat.sub_self] <;> rfl) i
def Sml (k : Nat) (o : O) : Prop := ∃ xs, o = .lst xs ∧ xs.length ≤ k
/-- the places ls of Z hold the lists P -/
def Fr8 (Z : Sto) (n : Nat) : List Nat → List (List Nat) → Prop
  | [], [] => True
  | l :: ls, ns :: P => (n ≤ l ∧ Z[l]? = some (.lst (qqL ns))) ∧ Fr8 Z n ls P
  | _, _ => False
def Rep (Z : Sto) (n : Nat) (r d : D) : Prop :=
  (∃ w xs, w ≠ ("turn" : Str) ∧ w ≠ ("freed" : Str) ∧ r = .tup (.str w :: xs) ∧ d = r ∧ ∀ x ∈ xs, (∃ z, x = .str z) ∨ ∃ ys, x = .tup ys) ∨
  ∃ w ls P, (w = ("turn" : Str) ∨ w = ("freed" : Str)) ∧ r = .tup (.str w :: ls.map .loc) ∧ d = .tup (.str w :: lvL P) ∧ Fr8 Z n ls P ∧ ls.length ≤ 7
theorem Fr8.to {Z Y : Sto} {n m : Nat} (hn : m ≤ n) (h : ∀ l, n ≤ l → ∀ o, Z[l]? = some o → Y[l]? = some o) : ∀ {ls : List Nat} {P : List (List Nat)}, Fr8 Z n ls P → Fr8 Y m ls P
  | [], [], _ => trivial
  | l :: ls, ns :: P, hf => ⟨⟨Nat.le_trans hn hf.1.1, h l hf.1.1 _ hf.1.2⟩, Fr8.to hn h hf.2⟩
  | [], _ :: _, hf => hf.elim
  | _ :: _, [], hf => hf.elim
theorem Rep.to {Z Y : Sto} {n m : Nat} (hn : m ≤ n) (h : ∀ l, n ≤ l → ∀ o, Z[l]? = some o → Y[l]? = some o) {r d : D} (hr : Rep Z n r d) : Rep Y m r d := by
  rcases hr with h1 | ⟨w, ls, P, h1, h2, h3, h4, h5⟩
  · exact .inl h1
  · exact .inr ⟨w, ls, P, h1, h2, h3, h4.to hn h, h5⟩
theorem cTuple_loc {Z : Sto} {l : Nat} {xs : List D} (h : Z[l]? = some (.lst xs)) : cTuple [.loc l] Z = .ok (.tup xs) Z := by
  have e : items Z (.loc l) = some xs := by
    show lstO Z (.loc l) = some xs
    rw [r_lstO, h] <;> rfl
  show (match items Z (.loc l) with
    | some xs => Res.ok (D.tup xs) Z
    | none => .stuck) = _
  rw [e]
theorem locs_map (n k : Nat) : locsF n k = ((List.range k).map fun i => n + 1 + i).map D.loc := by
  unfold locsF
  rw [List.map_map] <;> rfl
theorem StP_fr (S : Sto) (P : List (List Nat)) : ∀ (Q : List (List Nat)) (base : Nat), (∀ (i : Nat) ns, Q[i]? = some ns → P[base + i]? = some ns) → Fr8 (StP S P) S.length ((List.range Q.length).map fun i => S.length + 1 + (base + i)) Q
  | [], _, _ => trivial
  | q :: Q, base, h => by
    rw [List.length_cons, List.range_succ_eq_map, List.map_cons, List.map_map]
    have e : ((fun i => S.length + 1 + (base + i)) ∘ Nat.succ) = fun i => S.length + 1 + (base + 1 + i) := by
      funext i
      show S.length + 1 + (base + (i + 1)) = _
      omega
    rw [e]
    exact ⟨⟨by omega, StP_at S P (h 0 q rfl)⟩, StP_fr S P Q (base + 1) fun i ns hi => by
      have := h (i + 1) ns (by simpa using hi)
      have e2 : base + 1 + i = base + (i + 1) := by omega
      rw [e2]; exact this⟩
theorem turnW_bd {P : List (List Nat)} (hP : P.length = 7) (h : ∀ ns ∈ P, Few ns) : (∀ w ∈ turnW P, w.length ≤ 16777216) ∧ (turnW P).length ≤ 42 := by
  refine ⟨fun w hw => ?_, by have := turnW_len h; omega⟩
  rcases turnW_mem hw with rfl | ⟨ns, hns, n, hn, rfl⟩
  · decide
  · have := TL.numL_len (k := 60) (by decide) ((h ns hns).2 n hn)
    omega
theorem turn_tr {P : List (List Nat)} (hP : P.length = 7) (h : ∀ ns ∈ P, Few ns) (S : Sto) : f_turn_told [.vl (rowsD (turnW P))] S = .ok (.tup (.str "turn" :: locsF S.length P.length)) (StP S P) := by
  have bd := turnW_bd hP h
  have lp := turn_loop (fun w hw S => number_told_spec (S := S) hw) (.vl (rowsD (turnW P))) S (turnW P) [] bd.1 (by rw [List.length_nil]; have := bd.2; omega) (fun q hq => nomatch hq)
  rw [StP_nil] at lp
  have e0 := listsT_all P [] h
  rw [List.nil_append] at e0
  rcases lp with ⟨P', e1, e2⟩ | ⟨e1, T, e2⟩
  · rw [e0] at e1
    injection e1 with e1
    subst e1
    have gp := StP_get S P
    have lp : (locsF S.length P.length).length = P.length := by unfold locsF; rw [List.length_map, List.length_range]
    have ctp := cTuple_loc gp
    obtain ⟨Z, hZ⟩ : ∃ Z, Z = StP S P := ⟨_, rfl⟩
    obtain ⟨X, hX⟩ : ∃ X, X = locsF S.length P.length := ⟨_, rfl⟩
    obtain ⟨R, hR⟩ : ∃ R, R = rowsD (turnW P) := ⟨_, rfl⟩
    rw [← hZ] at e2 gp ctp ⊢
    rw [← hX] at gp ctp lp ⊢
    rw [← hR] at e2 ⊢
    have ct : ∀ S, catT (.tup [.str "turn"]) (.tup X) S = .ok (.tup (.str "turn" :: X)) S := fun S => catT_ok (by rw [lp, hP, le_line (by decide)])
    have d7 : decide (((P.length : Nat) : Int) = 7) = true := decide_eq_true (by omega)
    unfold f_turn_told b_turn_told
    rw [bar_tx]
    simp! only [for_fix, e2, gp, lp, d7, ct, ctp, c_LISTS]
  · rw [e0] at e1
    cases e1
theorem freed_tr {ns : List Nat} (h : Few ns) (S : Sto) : f_freed_told [.vl (rowsD (freedW ns))] S = .ok (.tup [.str "freed", .loc S.length]) (S ++ [.lst (qqL ns)]) := by
  have wl : ∀ w ∈ freedW ns, w.length ≤ 16777216 := fun w hw => by
    obtain ⟨n, hn, rfl⟩ := List.mem_map.mp hw
    have := TL.numL_len (k := 60) (by decide) (h.2 n hn)
    omega
  have l5 := h.1
  let F : D → D := fun d => match d with | .str z => oiD (numT z.cps.toList) | _ => .non
  have eF : (rowsD (freedW ns)).map F = qqL ns := by
    unfold rowsD freedW qqL
    rw [List.map_map, List.map_map]
    refine List.map_congr_left fun n hn => ?_
    show oiD (numT (TL.numL n)) = _
    rw [numT_num (h.2 n hn)] <;> rfl
  have rl : (rowsD (freedW ns)).length = ns.length := by unfold rowsD freedW; rw [List.length_map, List.length_map]
  have l1 : ∀ ρ : Rho, ρ = [some (.vl (rowsD (freedW ns))), none, none, none] → lcT8 ⟨fixGet (rowsD (freedW ns)), (rowsD (freedW ns)).length + 1⟩ (.nm 2) tYesM (mCall 1 f_number_told (aCons (mVar 2) aNil)) ρ S = .ok (.loc S.length) (S ++ [.lst (qqL ns)]) := fun ρ hρ => by
    rw [hρ, ← eF]
    refine lcT8_map rfl (fun _ _ => rfl) F (fun d hd acc => ⟨_, tgM_nm, ?_⟩) (by rw [rl]; omega)
    obtain ⟨w, hw, rfl⟩ := List.mem_map.mp hd
    simp! only [number_told_spec (wl w hw)]
    rfl
  have l1' := l1 _ rfl
  have l2 : lcW8 ⟨lstGet S.length, (qqL ns).length + 1⟩ (.nm 3) tYesM (mOp2 isD (mVar 3) (mC .non)) [some (.vl (rowsD (freedW ns))), some (.loc S.length), none, none] (S ++ [.lst (qqL ns)]) = .ok (.vl ((qqL ns).map fun _ => .bl false)) (S ++ [.lst (qqL ns)]) := by
    refine lcW8_map rfl (fun i acc => lst_at i acc) (fun _ => .bl false) (fun d hd acc => ⟨_, tgM_nm, ?_⟩) (by unfold qqL; rw [List.length_map]; omega) (pureAll_mem.mpr fun x hx => by
      obtain ⟨y, _, rfl⟩ := List.mem_map.mp hx
      rfl)
    obtain ⟨n, hn, rfl⟩ := List.mem_map.mp hd
    simp! only [is_non, isN_int]
  have an : ∀ S, cAny [.vl ((qqL ns).map fun _ => D.bl false)] S = .ok (.bl false) S := fun S => by
    have := any_vl (bs := (qqL ns).map fun _ => false) (S := S)
    rw [List.map_map] at this
    have e : ((qqL ns).map fun _ => false).any id = false := by
      rw [List.any_map, List.any_eq_false]
      intro x _ z
      cases z
    rw [e] at this
    exact this
  have gl : (S ++ [O.lst (qqL ns)])[S.length]? = some (.lst (qqL ns)) := get_last _ _
  obtain ⟨R, hR⟩ : ∃ R, R = rowsD (freedW ns) := ⟨_, rfl⟩
  obtain ⟨Q, hQ⟩ : ∃ Q, Q = qqL ns := ⟨_, rfl⟩
  rw [← hR] at l1' l2 ⊢
  rw [← hQ] at l1' l2 gl an ⊢
  unfold f_freed_told b_freed_told
  simp! only [- kLc_ok, - kLV_lst, kLc_T8, kLV_l8, l1', l2, gl, an]
theorem spl_lines {w : List Nat} {ts : List (List Nat)} (h : ∀ p ∈ w :: ts, 32 ∉ p) (hl : (TL.joinL [32] (w :: ts)).length ≤ 3000) (S : Sto) : splD false (.str (tx (TL.joinL [32] (w :: ts)))) [.str (tx [32])] S = .ok (.vl (D.str (tx w) :: rowsD ts)) S := by
  have e1 := spl_tx (tr := false) (a := TL.joinL [32] (w :: ts)) (b := [32]) (S := S) (List.cons_ne_nil _ _) (by decide) (by omega)
  rw [TL.spl_join (List.cons_ne_nil _ _) h] at e1
  rw [e1]
  exact newL_f (by show pureAll (rowsD (w :: ts)) = true; exact rows_pure _)
theorem row_tr {t : List Nat} {d : D} (h : Sh t d) (S : Sto) : ∃ (r : D) (T : Sto), (∀ o ∈ T, Sml 100 o) ∧ r.isN = false ∧ f_row_told [.str (tx t)] S = .ok r (S ++ T) ∧ ∀ Z : Sto, (∀ (i : Nat) o, T[i]? = some o → Z[S.length + i]? = some o) → Rep Z S.length r d := by
  have hg := h.good
  cases h with
  | @deed x a hx ha hal h10 =>
    refine ⟨_, [], fun o ho => (nomatch ho), rfl, ?_, fun Z _ => .inl ⟨"deed", [x.d, .str (tx a)], by decide, by decide, rfl, rfl, fun y hy => ?_⟩⟩
    · have n45 : 45 ∉ x.t := fun z => by have := hx.sig 45 z; omega
      have hp := par_ar x.t [] a n45
      rw [List.nil_append] at hp
      have hl := hg.2.2.1
      have pd := parD_some hp (by omega)
      have xl := hx.len
      have dr := fun S => deed_row_told_spec (a := x.t) (b := a) (S := S) (by omega) (by omega)
      have e : odV (deedRowT x.t a) = .tup [.str "deed", x.d, .str (tx a)] := by
        unfold deedRowT
        rw [deedT_text hx]
        dsimp only
        rw [if_pos ha] <;> rfl
      rw [e] at dr
      obtain ⟨t, ht⟩ : ∃ t, t = x.t ++ (AR ++ a) := ⟨_, rfl⟩
      rw [← ht] at pd ⊢
      have iss : ∀ S, isStr (.str (tx t)) S = true := fun _ => rfl
      unfold f_row_told b_row_told
      rw [ar_tx, em_tx, List.append_nil]
      simp! only [iss, pd, dr, tx_deq]
    · rcases List.mem_cons.mp hy with rfl | hy
      · exact .inr ⟨_, rfl⟩
      · exact .inl ⟨_, List.mem_singleton.mp hy⟩
  | bep hb =>
    have hne : ∀ b ∈ BEP, b ≠ [116, 117, 114, 110] ∧ b ≠ [102, 114, 101, 101, 100] ∧ 45 ∉ b := by decide
    refine ⟨_, [], fun o ho => (nomatch ho), rfl, ?_, fun Z _ => .inl ⟨tx t, [], fun z => (hne t hb).1 (tx_eq.mp (z.trans tu_tx)), fun z => (hne t hb).2.1 (tx_eq.mp (z.trans fr_tx)), rfl, rfl, fun y hy => nomatch hy⟩⟩
    have hl := hg.2.2.1
    have pd := parD_none (par_no t [] (hne t hb).2.2) (by omega)
    have iq : ∀ S, inQ false (.str (tx t)) (.vl [.str "begin", .str "end", .str "packed"]) S = .ok (.bl (decide (t ∈ BEP))) S := fun S => inS_map false _ bep_tx rfl
    have iss : ∀ S, isStr (.str (tx t)) S = true := fun _ => rfl
    unfold f_row_told b_row_told
    rw [ar_tx, em_tx, List.append_nil]
    simp! only [iss, pd, tx_deq, iq, decide_eq_true hb]
  | @freed ns hf =>
    refine ⟨.tup [.str "freed", .loc S.length], [.lst (qqL ns)], fun o ho => ⟨qqL ns, List.mem_singleton.mp ho, by unfold qqL; rw [List.length_map]; have := hf.1; omega⟩, rfl, ?_, fun Z hZ => .inr ⟨"freed", [S.length], [ns], .inr rfl, rfl, rfl, ⟨⟨Nat.le_refl _, hZ 0 _ rfl⟩, trivial⟩, (show 1 ≤ 7 by decide)⟩⟩
    have hl := hg.2.2.1
    have hs : ∀ p ∈ frW :: freedW ns, ∀ c ∈ p, c ≠ 32 ∧ c ≠ 45 := fun p hp c hc => by
      rcases List.mem_cons.mp hp with rfl | hp
      · have : ∀ c ∈ frW, c ≠ 32 ∧ c ≠ 45 := by decide
        exact this c hc
      · obtain ⟨n, _, rfl⟩ := List.mem_map.mp hp
        have := num_sg c hc
        exact ⟨this.1, this.2.1⟩
    have n45 : 45 ∉ TL.joinL [32] (frW :: freedW ns) := fun z => by
      rcases mem_join z with z | ⟨p, hp, z⟩
      · cases z
      · exact (hs p hp 45 z).2 rfl
    have pd := parD_none (par_no _ [] n45) (by omega)
    have nb := not_bep (l := TL.joinL [32] (frW :: freedW ns)) (join_head rfl) (.inl rfl)
    have sp := fun S => spl_lines (fun p hp z => (hs p hp 32 z).1 rfl) hl S
    have ft := freed_tr hf S
    have rp := rows_pure (freedW ns)
    have ct := cut1 (.str (tx frW)) (rowsD (freedW ns))
    have g0 : atI (D.str (tx frW) :: rowsD (freedW ns)) 0 = some (.str (tx frW)) := atI_nat (j := 0) rfl
    obtain ⟨t, ht⟩ : ∃ t, t = TL.joinL [32] (frW :: freedW ns) := ⟨_, rfl⟩
    obtain ⟨R, hR⟩ : ∃ R, R = rowsD (freedW ns) := ⟨_, rfl⟩
    rw [← ht] at pd nb sp ⊢
    rw [← hR] at sp ft rp ct g0
    have iq : ∀ S, inQ false (.str (tx t)) (.vl [.str "begin", .str "end", .str "packed"]) S = .ok (.bl (decide (t ∈ BEP))) S := fun S => inS_map false _ bep_tx rfl
    have iss : ∀ S, isStr (.str (tx t)) S = true := fun _ => rfl
    have dx : decide (frW = [116, 117, 114, 110]) = false := by decide
    have dy : decide (frW = [102, 114, 101, 101, 100]) = true := by decide
    unfold f_row_told b_row_told
    rw [ar_tx, em_tx, tu_tx, fr_tx, bl_tx]
    simp! only [iss, pd, tx_deq, iq, decide_eq_false nb, sp, ct, g0, dx, dy, rp, ft]
    rw [fr_tx]
  | @turn P hP hF =>
    refine ⟨.tup (.str "turn" :: locsF S.length P.length), O.lst (locsF S.length P.length) :: P.map fun ns => .lst (qqL ns), fun o ho => ?_, rfl, ?_, fun Z hZ => .inr ⟨"turn", (List.range P.length).map fun i => S.length + 1 + (0 + i), P, .inl rfl, ?_, rfl, ?_, by rw [List.length_map, List.length_range, hP]; exact Nat.le_refl _⟩⟩
    · rcases List.mem_cons.mp ho with rfl | ho
      · exact ⟨_, rfl, by unfold locsF; rw [List.length_map, List.length_range, hP]; decide⟩
      · obtain ⟨ns, hns, rfl⟩ := List.mem_map.mp ho
        exact ⟨_, rfl, by unfold qqL; rw [List.length_map]; have := (hF ns hns).1; omega⟩
    · have hl := hg.2.2.1
      have hs := turnW_sg (P := P)
      have n45 : 45 ∉ TL.joinL [32] (tuW :: turnW P) := fun z => by
        rcases mem_join z with z | ⟨p, hp, z⟩
        · cases z
        · exact (hs p hp 45 z).2.1 rfl
      have pd := parD_none (par_no _ [] n45) (by omega)
      have nb := not_bep (l := TL.joinL [32] (tuW :: turnW P)) (join_head rfl) (.inr rfl)
      have sp := fun S => spl_lines (fun p hp z => (hs p hp 32 z).1 rfl) hl S
      have ft := turn_tr hP hF S
      rw [StP_app] at ft
      have rp := rows_pure (turnW P)
      have ct := cut1 (.str (tx tuW)) (rowsD (turnW P))
      have g0 : atI (D.str (tx tuW) :: rowsD (turnW P)) 0 = some (.str (tx tuW)) := atI_nat (j := 0) rfl
      obtain ⟨t, ht⟩ : ∃ t, t = TL.joinL [32] (tuW :: turnW P) := ⟨_, rfl⟩
      obtain ⟨R, hR⟩ : ∃ R, R = rowsD (turnW P) := ⟨_, rfl⟩
      obtain ⟨X, hX⟩ : ∃ X, X = locsF S.length P.length := ⟨_, rfl⟩
      obtain ⟨Y, hY⟩ : ∃ Y, Y = P.map fun ns => O.lst (qqL ns) := ⟨_, rfl⟩
      rw [← ht] at pd nb sp ⊢
      rw [← hR] at sp ft rp ct g0
      rw [← hX, ← hY] at ft ⊢
      have iq : ∀ S, inQ false (.str (tx t)) (.vl [.str "begin", .str "end", .str "packed"]) S = .ok (.bl (decide (t ∈ BEP))) S := fun S => inS_map false _ bep_tx rfl
      have iss : ∀ S, isStr (.str (tx t)) S = true := fun _ => rfl
      have dx : decide (tuW = [116, 117, 114, 110]) = true := by decide
      unfold f_row_told b_row_told
      rw [ar_tx, em_tx, tu_tx, fr_tx, bl_tx]
      simp! only [iss, pd, tx_deq, iq, decide_eq_false nb, sp, ct, g0, dx, rp, ft]
      rw [tu_tx]
    · rw [locs_map]
      have e : (fun i => S.length + 1 + (0 + i)) = fun i => S.length + 1 + i := by funext i; omega
      rw [e]
    · have f := StP_fr S P P 0 fun i ns hi => by rw [Nat.zero_add]; exact hi
      refine f.to (Nat.le_refl _) fun l hl o ho => ?_
      rw [StP_app, List.getElem?_append_right hl] at ho
      have := hZ (l - S.length) o ho
      rw [show S.length + (l - S.length) = l by omega] at this
      exact this

set_option Elab.async false
set_option linter.all false
set_option maxRecDepth 100000
set_option maxHeartbeats 4000000
/-! ### a log read into the store -/
def ShL : List (List Nat) → List D → Prop
  | [], [] => True
  | t :: R, d :: ds => Sh t d ∧ ShL R ds
  | _, _ => False
def RepL (Z : Sto) (n : Nat) : List D → List D → Prop
  | [], [] => True
  | r :: rs, d :: ds => Rep Z n r d ∧ RepL Z n rs ds
  | _, _ => False
theorem RepL.to {Z Y : Sto} {n m : Nat} (hn : m ≤ n) (h : ∀ l, n ≤ l → ∀ o, Z[l]? = some o → Y[l]? = some o) : ∀ {rs ds : List D}, RepL Z n rs ds → RepL Y m rs ds
  | [], [], _ => trivial
  | r :: rs, d :: ds, hf => ⟨hf.1.to hn h, RepL.to hn h hf.2⟩
  | [], _ :: _, hf => hf.elim
  | _ :: _, [], hf => hf.elim
noncomputable abbrev lgB8 : MSt := (sSeq (sSet 4 (mCall 1 f_row_told (aCons (mVar 3) aNil)))
 (sSeq (sIf (mTest (mOp2 isD (mVar 4) (mC .non)))
 sNot
 sNil)
 (sClr [2, 3, 4] (sExpr (mBM isL lAppend (mVar 1) (aCons (mVar 4) aNil))))))
theorem at_mid (S T : Sto) (o : O) : (S ++ o :: T)[S.length]? = some o := by
  rw [List.getElem?_append_right (Nat.le_refl _), Nat.sub_self] <;> rfl
theorem set_mid (S T : Sto) (o o' : O) : (S ++ o :: T).set S.length o' = S ++ o' :: T := by
  rw [List.set_append_right _ _ (Nat.le_refl _), Nat.sub_self] <;> rfl
theorem lt_loop (a : D) (S : Sto) : ∀ (R : List (List Nat)) (ds acc : List D) (T : Sto) (k : Nat), ShL R ds → acc.length + R.length ≤ 99999 → ∃ (rs : List D) (T' : Sto), (∀ o ∈ T', Sml 100 o) ∧ rs.length = R.length ∧
    forX (.tp [2, 3]) lgB8 (enuF k (rowsD R)) [some a, some (.loc S.length), none, none, none] (S ++ .lst acc :: T) = .nx [some a, some (.loc S.length), none, none, none] (S ++ .lst (acc ++ rs) :: (T ++ T')) ∧
    ∀ Z : Sto, (∀ (i : Nat) o, T'[i]? = some o → Z[S.length + 1 + T.length + i]? = some o) → RepL Z (S.length + 1 + T.length) rs ds
  | [], [], acc, T, k, _, _ => ⟨[], [], fun o ho => (nomatch ho), rfl, by rw [show enuF k (rowsD []) = [] from rfl, forX_nil, List.append_nil, List.append_nil], fun _ _ => trivial⟩
  | t :: R, d :: ds, acc, T, k, h, hl => by
    rw [List.length_cons] at hl
    obtain ⟨r, T1, t1, isn, t2, t3⟩ := row_tr h.1 (S ++ .lst acc :: T)
    obtain ⟨rs, T2, u1, u2, u3, u4⟩ := lt_loop a S R ds (acc ++ [r]) (T ++ T1) (k + 1) h.2 (by rw [List.length_append, List.length_cons, List.length_nil]; omega)
    have Sl : (S ++ O.lst acc :: T).length = S.length + 1 + T.length := by rw [List.length_append, List.length_cons]; omega
    refine ⟨r :: rs, T1 ++ T2, fun o ho => (List.mem_append.mp ho).elim (t1 o) (u1 o), by rw [List.length_cons, u2, List.length_cons], ?_, fun Z hZ => ⟨?_, ?_⟩⟩
    · have e : enuF k (rowsD (t :: R)) = .tup [.int (k : Int), .str (tx t)] :: enuF (k + 1) (rowsD R) := rfl
      have ea : S ++ O.lst acc :: T ++ T1 = S ++ O.lst acc :: (T ++ T1) := by rw [List.append_assoc] <;> rfl
      rw [ea] at t2
      have gl := at_mid S (T ++ T1) (.lst acc)
      have st := set_mid S (T ++ T1) (.lst acc) (.lst (acc ++ [r]))
      have lt : (acc.length < sizeLine) = True := lt_line (by omega)
      have e2 : acc ++ r :: rs = acc ++ [r] ++ rs := by simp
      rw [e, e2, ← List.append_assoc T T1 T2]
      obtain ⟨Z1, hZ1⟩ : ∃ Z, Z = S ++ O.lst acc :: T := ⟨_, rfl⟩
      obtain ⟨Z2, hZ2⟩ : ∃ Z, Z = S ++ O.lst acc :: (T ++ T1) := ⟨_, rfl⟩
      obtain ⟨Z3, hZ3⟩ : ∃ Z, Z = S ++ O.lst (acc ++ [r]) :: (T ++ T1) := ⟨_, rfl⟩
      rw [← hZ1] at t2 ⊢
      rw [← hZ2] at t2 gl st
      rw [← hZ3] at st u3
      simp! only [r_itemsT, t2, is_non, isn, gl, lt, st, u3]
    · rw [← Sl]
      refine t3 Z fun i o ho => ?_
      rw [Sl]
      exact hZ i o (by rw [List.getElem?_append_left (List.getElem?_eq_some_iff.mp ho).1]; exact ho)
    · have := u4 Z fun i o ho => by
        have := hZ (T1.length + i) o (by rw [List.getElem?_append_right (by omega), Nat.add_sub_cancel_left]; exact ho)
        rw [List.length_append]
        rw [show S.length + 1 + (T.length + T1.length) + i = S.length + 1 + T.length + (T1.length + i) by omega]
        exact this
      exact this.to (by rw [List.length_append]; omega) fun l _ o ho => ho
  | [], _ :: _, _, _, _, h, _ => h.elim
  | _ :: _, [], _, _, _, h, _ => h.elim
theorem split_rows {R : List (List Nat)} (hR : R ≠ []) (hn : ∀ r ∈ R, 10 ∉ r) : TL.spl [10] 0 [] (TL.joinL [10] R) = R := TL.spl_join hR hn
theorem joinL_cons_ne {s : List Nat} {p q : List Nat} {r : List (List Nat)} (hs : s ≠ []) : TL.joinL s (p :: q :: r) ≠ [] := fun h => by
  have h1 : p ++ (s ++ TL.joinL s (q :: r)) = [] := h
  rw [List.append_eq_nil_iff, List.append_eq_nil_iff] at h1
  exact hs h1.2.1
theorem ShL.good : ∀ {R : List (List Nat)} {ds : List D}, ShL R ds → ∀ r ∈ R, ∃ d, Good r d
  | [], [], _, r, hr => nomatch hr
  | t :: R, d :: ds, h, r, hr => by
    rcases List.mem_cons.mp hr with rfl | hr
    · exact ⟨d, h.1.good⟩
    · exact ShL.good h.2 r hr
  | [], _ :: _, h, _, _ => h.elim
  | _ :: _, [], h, _, _ => h.elim
theorem ShL.join_ne {R : List (List Nat)} {ds : List D} (h : ShL R ds) (hR : R ≠ []) : TL.joinL [10] R ≠ [] := by
  cases R with
  | nil => exact absurd rfl hR
  | cons p R =>
    cases R with
    | nil =>
      obtain ⟨d, g⟩ := h.good p List.mem_cons_self
      exact g.2.2.2.1
    | cons q R => exact joinL_cons_ne (List.cons_ne_nil _ _)
theorem ShL.join_len {R : List (List Nat)} {ds : List D} (h : ShL R ds) (hk : R.length ≤ 1000) : (TL.joinL [10] R).length ≤ 16777000 := by
  have h1 := joinL_len [10] R
  have h2 := lensum_le (k := 3000) (ts := R) fun t ht => by
    obtain ⟨d, g⟩ := h.good t ht
    exact g.2.2.1
  have h3 : ([10] : List Nat).length = 1 := rfl
  rw [h3] at h1
  omega
theorem lread_tr {R : List (List Nat)} {ds : List D} (h : ShL R ds) (hk : R.length ≤ 1000) (S : Sto) : ∃ (rs : List D) (T : Sto), (∀ o ∈ T, Sml 100 o) ∧ rs.length = R.length ∧ f_log_read [.str (tx (TL.joinL [10] R))] S = .ok (.loc S.length) (S ++ .lst rs :: T) ∧
    ∀ Z : Sto, (∀ (i : Nat) o, T[i]? = some o → Z[S.length + 1 + i]? = some o) → RepL Z (S.length + 1) rs ds := by
  by_cases hR : R = []
  · subst hR
    cases ds with
    | cons d ds => exact h.elim
    | nil =>
      refine ⟨[], [], fun o ho => (nomatch ho), rfl, ?_, fun _ _ => trivial⟩
      show f_log_read [.str (tx [])] S = _
      unfold f_log_read b_log_read
      rw [em_tx]
      simp! only [tx_deq]
  · have hne := h.join_ne hR
    have hL := h.join_len hk
    have sp := split_rows hR fun r hr => by
      obtain ⟨d, g⟩ := h.good r hr
      exact g.2.1
    obtain ⟨rs, T, t1, t2, t3, t4⟩ := lt_loop (.str (tx (TL.joinL [10] R))) S R ds [] [] 1 h (by rw [List.length_nil]; omega)
    refine ⟨rs, T, t1, t2, ?_, t4⟩
    rw [List.nil_append, List.nil_append] at t3
    obtain ⟨t, ht⟩ : ∃ t, t = TL.joinL [10] R := ⟨_, rfl⟩
    rw [← ht] at sp hne hL t3 ⊢
    have e1 : ∀ S, splD false (.str (tx t)) [.str (tx [10])] S = newL false (rowsD R) S := fun S => by
      have := spl_tx (tr := false) (a := t) (b := [10]) (S := S) (List.cons_ne_nil _ _) (by decide) (by omega)
      rw [sp] at this
      exact this
    have iss : ∀ S, isStr (.str (tx t)) S = true := fun _ => rfl
    have rp := rows_pure R
    have rl : (rowsD R).length < (rowsD R).length + 1 := Nat.lt_succ_self _
    unfold f_log_read b_log_read
    rw [nl_tx, em_tx]
    simp! only [tx_deq, decide_eq_false hne, r_itEn1, itEn1_ok, iss, e1, rp, for_enu1, rl, t3]

set_option Elab.async false
set_option linter.all false
set_option maxRecDepth 100000
set_option maxHeartbeats 4000000
/-! ### what is read, compared, frozen, looked over -/
theorem Fr8.pdL {Z : Sto} {n k : Nat} : ∀ {ls : List Nat} {P : List (List Nat)}, Fr8 Z n ls P → optAll (pd Z (k + 1)) (ls.map D.loc) = some (pyAll (lvL P))
  | [], [], _ => rfl
  | l :: ls, ns :: P, h => by
    have e : pd Z (k + 1) (.loc l) = some (D.vl (qqL ns)).py := by
      rw [pd_loc h.1.2 (pd_qqL Z k ns)]
      show some (PyData.list _) = some (PyData.list (pyAll (qqL ns)))
      have : ∀ m : List Nat, pyAll (qqL m) = m.map fun n : Nat => PyData.int (n : Int) := fun m => by
        induction m with
        | nil => rfl
        | cons x m ih =>
          show PyData.int (x : Int) :: pyAll (qqL m) = _
          rw [ih] <;> rfl
      rw [this]
    exact optAll_cons e (Fr8.pdL h.2)
  | [], _ :: _, h => h.elim
  | _ :: _, [], h => h.elim
theorem RepL.pdL {Z : Sto} {n : Nat} : ∀ {rs ds : List D}, RepL Z n rs ds → (∀ d ∈ ds, d.dat = true ∧ d.dep ≤ 2) → optAll (pd Z 7) rs = some (pyAll ds)
  | [], [], _, _ => rfl
  | r :: rs, d :: ds, h, hd => by
    have ih := RepL.pdL h.2 fun x hx => hd x (List.mem_cons_of_mem _ hx)
    have d0 := hd d List.mem_cons_self
    have e : MP.pd Z 7 r = some d.py := by
      rcases h.1 with ⟨w, xs, _, _, h1, h2, _⟩ | ⟨w, ls, P, _, h1, h2, h3, _⟩
      · rw [← h2]
        exact dat_pd d0.1 (by omega)
      · rw [h1, h2, pd_tup (optAll_cons pd_str (Fr8.pdL (k := 5) h3))] <;> rfl
    exact optAll_cons e ih
  | [], _ :: _, h, _ => h.elim
  | _ :: _, [], h, _ => h.elim
theorem found_ne {Z T : Sto} {rs ds : List D} (h : RepL (.lst rs :: T) 1 rs ds) (hd : ∀ d ∈ ds, d.dat = true ∧ d.dep ≤ 2) : neR (.loc 0) (.vl ds) (.lst rs :: T) = .ok (.bl false) (.lst rs :: T) := by
  have dv : (D.vl ds).dat = true := datA_mem fun d hx => (hd d hx).1
  have dd : (D.vl ds).dep ≤ 8 := by
    have := depA_mem (k := 2) fun d hx => (hd d hx).2
    show depAll ds + 1 ≤ 8
    omega
  have p1 : pd (.lst rs :: T) 8 (.loc 0) = some (.list (pyAll ds)) := pd_loc (n := 7) rfl (h.pdL hd)
  have p2 : pd (.lst rs :: T) 8 (.vl ds) = some (D.vl ds).py := dat_pd dv dd
  have ly := (dat_lay dv).1
  have : eqD (.lst rs :: T) (.loc 0) (.vl ds) = some true := eqD_pd p1 p2 ly ly true (eqv_refl ly) (.inl rfl)
  unfold neR
  rw [this] <;> rfl
theorem Fr8.fz {Z : Sto} {n m k : Nat} (hm : m ≤ n) : ∀ {ls : List Nat} {P : List (List Nat)}, Fr8 Z n ls P → optAll (fzD Z m (k + 2)) (ls.map D.loc) = some (lvL P)
  | [], [], _ => rfl
  | l :: ls, ns :: P, h => by
    have e : fzD Z m (k + 2) (.loc l) = some (.vl (qqL ns)) := by
      rw [fz_loc (by have := h.1.1; omega), h.1.2]
      exact kFz_lst (qqL_pure ns)
    exact optAll_cons e (Fr8.fz hm h.2)
  | [], _ :: _, h => h.elim
  | _ :: _, [], h => h.elim
theorem Rep.fz {Z : Sto} {n m : Nat} (hm : m ≤ n) {r d : D} (h : Rep Z n r d) (hd : d.dat = true) : fzD Z m 7 r = some d := by
  rcases h with ⟨w, xs, _, _, h1, h2, _⟩ | ⟨w, ls, P, _, h1, h2, h3, _⟩
  · rw [← h2]
    exact fz_pure (dat_pure hd)
  · rw [h1, h2]
    cases ls with
    | nil =>
      cases P with
      | nil => exact fz_pure rfl
      | cons p P => exact h3.elim
    | cons l ls =>
      have np : (D.tup (.str w :: (l :: ls).map D.loc)).pureB = false := rfl
      have e := Fr8.fz (k := 4) hm h3
      have e2 : optAll (fzD Z m 6) (.str w :: (l :: ls).map D.loc) = some (.str w :: lvL P) := optAll_cons (fz_pure rfl) e
      show (if (D.tup (.str w :: (l :: ls).map D.loc)).pureB = true then _ else (optAll (fzD Z m 6) (.str w :: (l :: ls).map D.loc)).map D.tup) = _
      rw [np, if_neg Bool.false_ne_true, e2] <;> rfl
theorem RepL.fz {Z : Sto} {n m : Nat} (hm : m ≤ n) : ∀ {rs ds : List D}, RepL Z n rs ds → (∀ d ∈ ds, d.dat = true) → optAll (fzD Z m 7) rs = some ds
  | [], [], _, _ => rfl
  | r :: rs, d :: ds, h, hd => optAll_cons (h.1.fz hm (hd d List.mem_cons_self)) (RepL.fz hm h.2 fun x hx => hd x (List.mem_cons_of_mem _ hx))
  | [], _ :: _, h, _ => h.elim
  | _ :: _, [], h, _ => h.elim
/-- what is read, frozen at once -/
theorem read_fz {R : List (List Nat)} {ds : List D} (h : ShL R ds) (hk : R.length ≤ 1000) (hd : ∀ d ∈ ds, d.dat = true) (S : Sto) : exitR false S (f_log_read [.str (tx (TL.joinL [10] R))] S) = .ok (.vl ds) S := by
  obtain ⟨rs, T, _, _, e, g⟩ := lread_tr h hk S
  have rp := g (S ++ .lst rs :: T) fun i o ho => by
    rw [List.getElem?_append_right (by omega)]
    rw [show S.length + 1 + i - S.length = i + 1 by omega]
    exact ho
  have pds : pureAll ds = true := pureAll_mem.mpr fun x hx => dat_pure (hd x hx)
  have f : fzD (S ++ .lst rs :: T) S.length 8 (.loc S.length) = some (.vl ds) := by
    rw [fz_loc0, at_mid]
    show vlO (optAll (fzD (S ++ .lst rs :: T) S.length 7) rs) = _
    rw [rp.fz (by omega) hd]
    exact if_pos pds
  rw [e, exit_app, ite_f, exK_none, f, exO_some, take_app]
theorem for_keep {t : Tg} {b : MSt} {l k : Nat} {xs : List D} {ρ : Rho} {S : Sto} (h : S[l]? = some (.lst xs)) (hk : xs.length < k) (hb : ∀ x ∈ xs, ∃ ρ1, tgM t x ρ S = some ρ1 ∧ b ρ1 S = .nx ρ S) : kFor (.ok ⟨lstGet l, k⟩ S) t b ρ = .nx ρ S := by
  rw [kFor_ok]
  refine forL (r := forGo ⟨lstGet l, k⟩ t b k 0 ρ S) rfl xs (fun _ ρ' S' => ρ' = ρ ∧ S' = S) (fun r => r = .nx ρ S) hk ⟨rfl, rfl⟩ (fun i ρ' S' p => by rw [p.2]; exact h) (fun i x ρ' S' hx p => ?_) (fun ρ' S' p => by rw [p.1, p.2])
  obtain ⟨p1, p2⟩ := p
  subst p1 p2
  obtain ⟨ρ1, e1, e2⟩ := hb x (List.mem_of_getElem? hx)
  exact ⟨ρ1, e1, by rw [e2]; exact ⟨rfl, rfl⟩⟩
noncomputable abbrev fmI : MSt := (sClr [2] (sIf (mTest (mOp2 (inQ false) (mOp2 getI (mVar 1) (mC (.int 0))) (mLst false (aCons (mC (.str "turn")) (aCons (mC (.str "freed")) aNil)))))
 (sIf (tOr' (tNot' (mTest (mIsi "list" (mVar 2)))) (mTest (mOp2 neR (mLcV (miL (mVar 2)) (.nm 3) (tNot' (mTest (mCall 1 f_law_whole (aCons (mVar 3) aNil)))) (mVar 3) [3]) (mLst false aNil))))
 (sRet (mC (.bl false)))
 sNil)
 sNil))
theorem wholeK (n : Int) (S : Sto) : f_law_whole [.int n] S = .ok (.bl true) S := by
  unfold f_law_whole b_law_whole
  simp! only []
theorem lcW8_none {l k : Nat} {ns : List Nat} {ρ : Rho} {S : Sto} (hl : S[l]? = some (.lst (qqL ns))) (hk : k = (qqL ns).length + 1) (hn : ns.length ≤ 99999) (a b c : Option D) : lcW8 ⟨lstGet l, k⟩ (.nm 3) (tNot' (mTest (mCall 1 f_law_whole (aCons (mVar 3) aNil)))) (mVar 3) [a, b, c, none] S = .ok (.vl []) S := by
  have e : (qqL ns).filter (fun _ => false) = [] := List.filter_eq_nil_iff.mpr fun _ _ z => by cases z
  have := lc_val (xs := qqL ns) (b := fun _ => false) (f := fun d => d) (it := ⟨lstGet l, k⟩) (t := .nm 3) (tt := tNot' (mTest (mCall 1 f_law_whole (aCons (mVar 3) aNil)))) (me := mVar 3) (ρ := [a, b, c, none]) (S := S) hk (fun i acc => lstGet_ok (by rw [List.getElem?_append_left (List.getElem?_eq_some_iff.mp hl).1]; exact hl) i) (fun d hd acc => by
    obtain ⟨n, _, rfl⟩ := List.mem_map.mp hd
    refine ⟨_, tgM_nm, ?_, fun z => by cases z⟩
    simp! only [wholeK]) (by unfold qqL; rw [List.length_map]; omega) (by rw [e]; rfl)
  rw [e] at this
  exact this
theorem inTF (w : Str) (S : Sto) : inQ false (.str w) (.vl [.str "turn", .str "freed"]) S = .ok (.bl (decide (w.cps.toList ∈ [[116, 117, 114, 110], [102, 114, 101, 101, 100]]))) S := by
  have hz : (["turn", "freed"] : List Str) = [[116, 117, 114, 110], [102, 114, 101, 101, 100]].map tx := by
    rw [tu_tx, fr_tx] <;> rfl
  have := inS_map false (.vl [.str "turn", .str "freed"]) hz (l := w.cps.toList) (S := S) rfl
  rw [tx_of] at this
  exact this
theorem form_spec {rs ds : List D} {T : Sto} (h : RepL (.lst rs :: T) 1 rs ds) (hs : ∀ o ∈ T, Sml 100 o) (hl : rs.length ≤ 1000) : f_law_form [.loc 0] (.lst rs :: T) = .ok (.bl true) (.lst rs :: T) := by
  obtain ⟨Z, hZ⟩ : ∃ Z : Sto, Z = .lst rs :: T := ⟨_, rfl⟩
  have g0 : Z[0]? = some (.lst rs) := by rw [hZ] <;> rfl
  have all : ∀ {rs' ds' : List D}, RepL (.lst rs :: T) 1 rs' ds' → ∀ r ∈ rs', ∃ d, Rep (.lst rs :: T) 1 r d := fun {rs'} => by
    induction rs' with
    | nil => exact fun _ r hr => nomatch hr
    | cons r0 rs' ih =>
      intro ds' hh r hr
      cases ds' with
      | nil => exact hh.elim
      | cons d ds' =>
        rcases List.mem_cons.mp hr with rfl | hr
        · exact ⟨d, hh.1⟩
        · exact ih hh.2 r hr
  have inner : ∀ (a : D) (W : Str) (X : List D), (∀ x ∈ X, (W.cps.toList ∉ [[116, 117, 114, 110], [102, 114, 101, 101, 100]]) ∨ ∃ l ns, x = .loc l ∧ Z[l]? = some (.lst (qqL ns)) ∧ ns.length ≤ 100) → forX (.nm 2) fmI X [some a, some (.tup (.str W :: X)), none, none] Z = .nx [some a, some (.tup (.str W :: X)), none, none] Z := fun a W X hx => forX_keep fun x hxm => by
    refine ⟨_, tgM_nm, ?_⟩
    have i0 := inTF W
    have g1 : atI (D.str W :: X) 0 = some (.str W) := atI_nat (j := 0) rfl
    by_cases hw : W.cps.toList ∈ [[116, 117, 114, 110], [102, 114, 101, 101, 100]]
    · rcases hx x hxm with hn | ⟨l, ns, rfl, hg, hn⟩
      · exact absurd hw hn
      · have lc := lcW8_none (ρ := []) hg rfl (by omega) (some a) (some (.tup (.str W :: X))) (some (.loc l))
        have nn : ∀ S, neR (.vl []) (.vl []) S = .ok (.bl false) S := fun S => neR_refl rfl (by decide)
        simp! only [g1, i0, decide_eq_true hw, hg, r_ty, kTy_l, - kLV_lst, kLV_l8, lc, nn]
    · simp! only [g1, i0, decide_eq_false hw]
  have loop : ∀ (b : MSt), b = (sSeq (sIf (tNot' (mTest (mIsi "tuple" (mVar 1))))
 (sRet (mC (.bl false)))
 sNil)
 (sClr [1, 2] (sClr [2] (sFor (miT (mSl' false (mVar 1) (ptSome (mC (.int 1))) ptNone)) (.nm 2) fmI)))) → kFor (.ok ⟨lstGet 0, rs.length + 1⟩ Z) (.nm 1) b [some (.loc 0), none, none, none] = .nx [some (.loc 0), none, none, none] Z := fun b hb => for_keep g0 (Nat.lt_succ_self _) fun r hr => by
    subst hb
    obtain ⟨d, hrep⟩ := all h r hr
    refine ⟨_, tgM_nm, ?_⟩
    obtain ⟨W, X, rfl, hx⟩ : ∃ W X, r = .tup (.str W :: X) ∧ ∀ x ∈ X, (W.cps.toList ∉ [[116, 117, 114, 110], [102, 114, 101, 101, 100]]) ∨ ∃ l ns, x = .loc l ∧ Z[l]? = some (.lst (qqL ns)) ∧ ns.length ≤ 100 := by
      rcases hrep with ⟨w, xs, h1, h2, h3, _, _⟩ | ⟨w, ls, P, _, h1, _, h3, _⟩
      · refine ⟨w, xs, h3, fun x _ => .inl fun z => ?_⟩
        rcases List.mem_cons.mp z with z | z
        · exact h1 (by rw [tu_tx, ← z, tx_of])
        · exact h2 (by rw [fr_tx, ← List.mem_singleton.mp z, tx_of])
      · refine ⟨w, _, h1, fun x hxm => .inr ?_⟩
        have key : ∀ {ls : List Nat} {P : List (List Nat)}, Fr8 (.lst rs :: T) 1 ls P → ∀ l ∈ ls, ∃ ns, 1 ≤ l ∧ (O.lst rs :: T)[l]? = some (.lst (qqL ns)) := fun {ls} => by
          induction ls with
          | nil => exact fun _ l hl => nomatch hl
          | cons l0 ls ih =>
            intro P hf l hl
            cases P with
            | nil => exact hf.elim
            | cons p P =>
              rcases List.mem_cons.mp hl with rfl | hl
              · exact ⟨p, hf.1⟩
              · exact ih hf.2 l hl
        obtain ⟨l, hlm, rfl⟩ := List.mem_map.mp hxm
        obtain ⟨ns, hl1, hl2⟩ := key h3 l hlm
        refine ⟨l, ns, rfl, by rw [hZ]; exact hl2, ?_⟩
        obtain ⟨j, rfl⟩ : ∃ j, l = j + 1 := ⟨l - 1, by omega⟩
        obtain ⟨xs, e1, e2⟩ := hs _ (List.mem_of_getElem? (show T[j]? = some _ from hl2))
        injection e1 with e1
        rw [← e1] at e2
        unfold qqL at e2
        rw [List.length_map] at e2
        exact e2
    have inn := inner (.loc 0) W X hx
    have itT_ : ∀ S, itT (.tup X) S = some ⟨fixGet X, X.length + 1⟩ := fun _ => rfl
    have rl : (X.length < X.length + 1) = True := eq_true (Nat.lt_succ_self _)
    simp! only [cutW, itT_, for_fix, rl, inn]
  have lp := loop _ rfl
  rw [← hZ]
  unfold f_law_form b_law_form
  simp! only [g0, lp]

set_option Elab.async false
set_option linter.all false
set_option maxRecDepth 100000
set_option maxHeartbeats 4000000
/-! ### the lists that were read are changed -/
noncomputable abbrev apI : MSt := (sClr [8] (sIf (mTest (mIsi "list" (mVar 8)))
 (sExpr (mBM isL lAppend (mVar 8) (aCons (mC (.str "more")) aNil)))
 sNil))
noncomputable abbrev ro8 (a b c d e f : D) (g : Option D) : Rho := [some a, some b, some c, some d, some e, some f, some (.loc 0), g, none, none, none]
def SmL (n k : Nat) (T : Sto) : Prop := T.length = n ∧ ∀ o ∈ T, Sml k o
theorem SmL.more {n k : Nat} {T : Sto} (h : SmL n k T) {l : Nat} {xs : List D} (hl : T[l]? = some (.lst xs)) (x : D) : SmL n (k + 1) (T.set l (.lst (xs ++ [x]))) := by
  refine ⟨by rw [List.length_set]; exact h.1, fun o ho => ?_⟩
  rcases List.mem_or_eq_of_mem_set ho with ho | rfl
  · obtain ⟨ys, e, hy⟩ := h.2 o ho
    exact ⟨ys, e, by omega⟩
  · obtain ⟨ys, e, hy⟩ := h.2 _ (List.mem_of_getElem? hl)
    injection e with e
    rw [← e] at hy
    exact ⟨_, rfl, by rw [List.length_append, List.length_cons, List.length_nil]; omega⟩
theorem ap_inner (a b c d e f : D) (g : Option D) (rs : List D) (n : Nat) : ∀ (ls : List Nat) (k : Nat) (T : Sto), (∀ l ∈ ls, 1 ≤ l ∧ l < n + 1) → k + ls.length ≤ 90000 → SmL n k T → ∃ T', SmL n (k + ls.length) T' ∧ forX (.nm 8) apI (ls.map .loc) (ro8 a b c d e f g) (.lst rs :: T) = .nx (ro8 a b c d e f g) (.lst rs :: T')
  | [], k, T, _, _, h => ⟨T, h, by rw [List.map_nil, forX_nil]⟩
  | l :: ls, k, T, hl, hk, h => by
    rw [List.length_cons] at hk
    obtain ⟨h1, h2⟩ := hl l List.mem_cons_self
    obtain ⟨j, rfl⟩ : ∃ j, l = j + 1 := ⟨l - 1, by omega⟩
    have hj : j < T.length := by rw [h.1]; omega
    obtain ⟨xs, e1, e2⟩ := h.2 _ (List.getElem_mem hj)
    have hg : T[j]? = some (.lst xs) := by rw [List.getElem?_eq_getElem hj, e1]
    obtain ⟨T', t1, t2⟩ := ap_inner a b c d e f g rs n ls (k + 1) (T.set j (.lst (xs ++ [.str "more"]))) (fun m hm => hl m (List.mem_cons_of_mem _ hm)) (by omega) (h.more hg _)
    refine ⟨T', by rw [List.length_cons, show k + (ls.length + 1) = k + 1 + ls.length by omega]; exact t1, ?_⟩
    have gl : (O.lst rs :: T)[j + 1]? = some (.lst xs) := hg
    have st : (O.lst rs :: T).set (j + 1) (.lst (xs ++ [.str "more"])) = .lst rs :: T.set j (.lst (xs ++ [.str "more"])) := rfl
    have lt : (xs.length < sizeLine) = True := lt_line (by omega)
    obtain ⟨m, hm⟩ : ∃ m, m = j + 1 := ⟨_, rfl⟩
    rw [List.map_cons]
    rw [← hm] at gl st ⊢
    obtain ⟨Z1, hZ1⟩ : ∃ Z : Sto, Z = .lst rs :: T := ⟨_, rfl⟩
    obtain ⟨Z2, hZ2⟩ : ∃ Z : Sto, Z = .lst rs :: T.set j (.lst (xs ++ [.str "more"])) := ⟨_, rfl⟩
    rw [← hZ1] at gl st ⊢
    rw [← hZ2] at st t2
    obtain ⟨LS, hLS⟩ : ∃ LS, LS = ls.map D.loc := ⟨_, rfl⟩
    rw [← hLS] at t2 ⊢
    simp! only [gl, r_ty, kTy_l, lt, st, t2]
theorem Fr8.rng {Z : Sto} {n : Nat} : ∀ {ls : List Nat} {P : List (List Nat)}, Fr8 Z n ls P → ∀ l ∈ ls, n ≤ l ∧ l < Z.length
  | [], _, _, l, hl => nomatch hl
  | l0 :: ls, p :: P, h, l, hl => by
    rcases List.mem_cons.mp hl with rfl | hl
    · exact ⟨h.1.1, (List.getElem?_eq_some_iff.mp h.1.2).1⟩
    · exact Fr8.rng h.2 l hl
  | _ :: _, [], h, _, _ => h.elim
theorem ap_loop (a b c d e f : D) {rs ds : List D} {T : Sto} (h : RepL (.lst rs :: T) 1 rs ds) (hs : ∀ o ∈ T, Sml 100 o) (hl : rs.length ≤ 1000) :
    ∃ T', SmL T.length (100 + 7 * rs.length) T' ∧ ∀ (B : MSt), B = (sClr [7, 8] (sClr [8] (sFor (miT (mSl' false (mVar 7) (ptSome (mC (.int 1))) ptNone)) (.nm 8) apI))) → kFor (.ok ⟨lstGet 0, rs.length + 1⟩ (.lst rs :: T)) (.nm 7) B (ro8 a b c d e f none) = .nx (ro8 a b c d e f none) (.lst rs :: T') := by
  obtain ⟨B, hB⟩ : ∃ B : MSt, B = (sClr [7, 8] (sClr [8] (sFor (miT (mSl' false (mVar 7) (ptSome (mC (.int 1))) ptNone)) (.nm 8) apI))) := ⟨_, rfl⟩
  have all : ∀ {rs' ds' : List D}, RepL (.lst rs :: T) 1 rs' ds' → ∀ r ∈ rs', ∃ d, Rep (.lst rs :: T) 1 r d := fun {rs'} => by
    induction rs' with
    | nil => exact fun _ r hr => nomatch hr
    | cons r0 rs' ih =>
      intro ds' hh r hr
      cases ds' with
      | nil => exact hh.elim
      | cons d ds' =>
        rcases List.mem_cons.mp hr with rfl | hr
        · exact ⟨d, hh.1⟩
        · exact ih hh.2 r hr
  have step : ∀ r ∈ rs, ∀ (k : Nat) (T1 : Sto), k ≤ 80000 → SmL T.length k T1 → ∃ T2, SmL T.length (k + 7) T2 ∧ B (ro8 a b c d e f (some r)) (.lst rs :: T1) = .nx (ro8 a b c d e f none) (.lst rs :: T2) := fun r hr k T1 hk hT => by
    obtain ⟨d', hrep⟩ := all h r hr
    obtain ⟨W, X, rfl, T2, t1, t2⟩ : ∃ W X, r = .tup (.str W :: X) ∧ ∃ T2, SmL T.length (k + 7) T2 ∧ forX (.nm 8) apI X (ro8 a b c d e f (some r)) (.lst rs :: T1) = .nx (ro8 a b c d e f (some r)) (.lst rs :: T2) := by
      rcases hrep with ⟨w, xs, _, _, h3, _, h5⟩ | ⟨w, ls, P, _, h1, _, h3, h7⟩
      · refine ⟨w, xs, h3, T1, ⟨hT.1, fun o ho => ?_⟩, forX_keep fun x hx => ⟨_, tgM_nm, ?_⟩⟩
        · obtain ⟨ys, e1, e2⟩ := hT.2 o ho
          exact ⟨ys, e1, by omega⟩
        · rcases h5 x hx with ⟨z, rfl⟩ | ⟨ys, rfl⟩
          · simp! only []
          · simp! only []
      · obtain ⟨T2, u1, u2⟩ := ap_inner a b c d e f (some r) rs T.length ls k T1 (fun l hl => by
          have := h3.rng l hl
          rw [List.length_cons] at this
          omega) (by omega) hT
        refine ⟨w, _, h1, T2, ⟨u1.1, fun o ho => ?_⟩, u2⟩
        obtain ⟨ys, e1, e2⟩ := u1.2 o ho
        exact ⟨ys, e1, by omega⟩
    refine ⟨T2, t1, ?_⟩
    have itT_ : ∀ S, itT (.tup X) S = some ⟨fixGet X, X.length + 1⟩ := fun _ => rfl
    have rl : (X.length < X.length + 1) = True := eq_true (Nat.lt_succ_self _)
    obtain ⟨Z1, hZ1⟩ : ∃ Z : Sto, Z = .lst rs :: T1 := ⟨_, rfl⟩
    obtain ⟨Z2, hZ2⟩ : ∃ Z : Sto, Z = .lst rs :: T2 := ⟨_, rfl⟩
    rw [← hZ1, ← hZ2] at t2 ⊢
    rw [hB]
    simp! only [cutW, itT_, for_fix, rl, t2]
  have key : ∃ T', SmL T.length (100 + 7 * rs.length) T' ∧ kFor (.ok ⟨lstGet 0, rs.length + 1⟩ (.lst rs :: T)) (.nm 7) B (ro8 a b c d e f none) = .nx (ro8 a b c d e f none) (.lst rs :: T') := by
    rw [kFor_ok]
    generalize hf : forGo (⟨lstGet 0, rs.length + 1⟩ : MIt) (.nm 7) B (rs.length + 1) 0 (ro8 a b c d e f none) (.lst rs :: T) = r
    refine forL hf rs (fun i ρ' S' => ρ' = ro8 a b c d e f none ∧ ∃ T1, S' = .lst rs :: T1 ∧ SmL T.length (100 + 7 * i) T1) (fun r => ∃ T', SmL T.length (100 + 7 * rs.length) T' ∧ r = .nx (ro8 a b c d e f none) (.lst rs :: T')) (Nat.lt_succ_self _) ⟨rfl, T, rfl, rfl, hs⟩ (fun i ρ' S' p => ?_) (fun i x ρ' S' hx p => ?_) (fun ρ' S' p => ?_)
    · obtain ⟨_, T1, e, _⟩ := p
      rw [e] <;> rfl
    · obtain ⟨e1, T1, e2, e3⟩ := p
      subst e1 e2
      have hi := (List.getElem?_eq_some_iff.mp hx).1
      obtain ⟨T2, t1, t2⟩ := step x (List.mem_of_getElem? hx) (100 + 7 * i) T1 (by omega) e3
      refine ⟨ro8 a b c d e f (some x), rfl, ?_⟩
      rw [t2]
      exact ⟨rfl, T2, rfl, by rw [show 100 + 7 * (i + 1) = 100 + 7 * i + 7 by omega]; exact t1⟩
    · obtain ⟨e1, T1, e2, e3⟩ := p
      exact ⟨T1, e3, by rw [e1, e2]⟩
  obtain ⟨T', t1, t2⟩ := key
  exact ⟨T', t1, fun B' hB' => by rw [hB', ← hB]; exact t2⟩

set_option Elab.async false
set_option linter.all false
set_option maxRecDepth 100000
set_option maxHeartbeats 4000000
theorem deed_shown_spec {x : Dt} (h : x.Ok) (S : Sto) : f_deed_shown [x.d] S = .ok (.str (tx x.t)) S := by
  have z1 : (" " : Str) = tx [32] := tx_str (by decide +kernel)
  unfold f_deed_shown b_deed_shown
  rw [z1]
  obtain ⟨X, hX⟩ : ∃ X, X = x.ds := ⟨_, rfl⟩
  have hd : x.d = .tup X := by rw [hX]; rfl
  obtain ⟨T, hT⟩ : ∃ T : List (List Nat), T = x.w :: x.ps.map Pt.t := ⟨_, rfl⟩
  have Tl : T.length ≤ 4 := by rw [hT, List.length_cons, List.length_map]; have := h.few; omega
  have Xl : X.length ≤ 4 := by rw [hX]; unfold Dt.ds; rw [List.length_cons, List.length_map]; have := h.few; omega
  have hmem : ∀ d ∈ X, ∃ t : List Nat, (∀ S, cStrS [d] S = .ok (.str (tx t)) S) ∧ (∀ S, cStrS [d] S = (match d with | .str z => .ok (.str z) S | d => cStrS [d] S)) := fun d hd => by
    rw [hX] at hd
    rcases List.mem_cons.mp hd with e | hd
    · rw [e]; exact ⟨x.w, fun _ => rfl, fun _ => rfl⟩
    · obtain ⟨p, hp, rfl⟩ := List.mem_map.mp hd
      obtain ⟨f, hf⟩ := fit_mem h.2 p hp
      refine ⟨p.t, strS_pt hf, fun S => ?_⟩
      cases p <;> rfl
  let F : D → D := fun d => match d with
    | .str z => .str z
    | .int i => .str (Str.ofString (toString i))
    | d => d
  have hF : ∀ d ∈ X, ∀ S, cStrS [d] S = .ok (F d) S := fun d hd S => by
    rw [hX] at hd
    rcases List.mem_cons.mp hd with e | hd
    · rw [e] <;> rfl
    · obtain ⟨p, hp, rfl⟩ := List.mem_map.mp hd
      obtain ⟨f, hf⟩ := fit_mem h.2 p hp
      cases p with
      | L c => rfl
      | N n =>
        show (if ((n : Nat) : Int).natAbs.log2 < 1920 then Res.ok (D.str (Str.ofString (toString ((n : Nat) : Int)))) S else .stuck) = _
        rw [Int.natAbs_natCast, if_pos (num_log hf.2.1)] <;> rfl
  have hXF : X.map F = T.map fun l => D.str (tx l) := by
    rw [hX, hT]
    show D.str (tx x.w) :: (x.ps.map Pt.d).map F = D.str (tx x.w) :: (x.ps.map Pt.t).map fun l => D.str (tx l)
    rw [List.map_map, List.map_map]
    congr 1
    refine List.map_congr_left fun p _ => ?_
    cases p with
    | L c => rfl
    | N n => exact congrArg D.str (SX.num_S n)
  have pT : pureAll (T.map fun l => D.str (tx l)) = true := pureAll_mem.mpr fun y hy => by
    obtain ⟨z, _, rfl⟩ := List.mem_map.mp hy
    rfl
  have lc : ∀ S, lcF X (X.length + 1) (.nm 1) tYesM (mCB cStrS (aCons (mVar 1) aNil)) [some (.tup X), none] S = .ok (.vl (T.map fun l => D.str (tx l))) S := fun S => by
    rw [← hXF]
    exact lcF_map F (fun d hd acc => ⟨_, tgM_nm, by simp! only [hF d hd]⟩) rfl (by omega) (by rw [hXF]; exact pT)
  have itT_ : ∀ S, itT (.tup X) S = some ⟨fixGet X, X.length + 1⟩ := fun _ => rfl
  have jn : ∀ S, joinD (.str (tx [32])) [.vl (T.map fun l => D.str (tx l))] S = .ok (.str (tx x.t)) S := fun S => by
    have e : x.t = TL.joinL [32] T := by rw [hT] <;> rfl
    rw [e]
    refine join_tx rfl ?_
    have := lensum_le (k := 60) (ts := T) fun t ht => (h.signs t (by rw [← hT]; exact ht)).2
    rw [List.length_cons, List.length_nil]
    omega
  have iss : ∀ S, isStr (.str (tx [32])) S = true := fun _ => rfl
  rw [hd]
  simp! only [itT_, kLV_fix, lc, jn, iss]
/-! ### a log shown -/
def listsWd (w : List Nat) (P : List (List Nat)) : List (List Nat) := (P.map fun ns => (if w = [116, 117, 114, 110] then [[124]] else []) ++ ns.map TL.numL).flatten
noncomputable abbrev shB : MSt := (sSeq (sIf (mTest (mOp2 eqR (mOp2 getI (mVar 0) (mC (.int 0))) (mC (.str (tx [116, 117, 114, 110])))))
 (sExpr (mBM isL lAppend (mVar 1) (aCons (mC (.str (tx [124]))) aNil)))
 sNil)
 (sClr [2] (sExpr (mBM isL lExtend (mVar 1) (aCons (mLcV (miL (mVar 2)) (.nm 3) tYesM (mCB cStrS (aCons (mVar 3) aNil)) [3]) aNil)))))
theorem lExt8 {a b : List D} (S : Sto) (h : a.length + b.length ≤ 90000) : lExtend (.loc S.length) [.vl b] (S ++ [.lst a]) = .ok .non (S ++ [.lst (a ++ b)]) := by
  have lt : a.length + b.length ≤ sizeLine := by rw [le_line (by omega)]; trivial
  show (match (S ++ [O.lst a])[S.length]? with
    | some (.lst xs) => extO S.length xs (lsmO (S ++ [O.lst a]) (.vl b)) (S ++ [O.lst a])
    | _ => .stuck) = _
  rw [get_last]
  show extO S.length a (some b) (S ++ [O.lst a]) = _
  unfold extO
  dsimp only
  rw [if_pos lt, set_last]
theorem ext8 {a b : List D} (S : Sto) (h : a.length + b.length ≤ 90000) : extO S.length a (some b) (S ++ [.lst a]) = .ok .non (S ++ [.lst (a ++ b)]) := by
  have lt : a.length + b.length ≤ sizeLine := by rw [le_line (by omega)]; trivial
  unfold extO
  dsimp only
  rw [if_pos lt, set_last]
theorem sh_lc (a b c : Option D) {ns : List Nat} (h : Few ns) (S : Sto) : lcF (qqL ns) ((qqL ns).length + 1) (.nm 3) tYesM (mCB cStrS (aCons (mVar 3) aNil)) [a, b, c, none] S = .ok (.vl (rowsD (ns.map TL.numL))) S := by
  let F : D → D := fun d => match d with | .int i => .str (tx (TL.numL i.toNat)) | _ => .non
  have e : (qqL ns).map F = rowsD (ns.map TL.numL) := by
    unfold qqL rowsD
    rw [List.map_map, List.map_map] <;> rfl
  rw [← e]
  refine lcF_map F (fun d hd acc => ⟨_, tgM_nm, ?_⟩) rfl (by unfold qqL; rw [List.length_map]; have := h.1; omega) (by rw [e]; exact rows_pure _)
  obtain ⟨n, hn, rfl⟩ := List.mem_map.mp hd
  have st := fun S => strS_num (n := n) (S := S) (num_log (h.2 n hn))
  simp! only [st]
  rfl
theorem sh_loop (w : List Nat) (X : List D) (S : Sto) : ∀ (P : List (List Nat)) (ws : List (List Nat)), (∀ ns ∈ P, Few ns) → ws.length + P.length * 6 ≤ 1000 → forX (.nm 2) shB (lvL P) [some (.tup (.str (tx w) :: X)), some (.loc S.length), none, none] (S ++ [.lst (rowsD ws)]) = .nx [some (.tup (.str (tx w) :: X)), some (.loc S.length), none, none] (S ++ [.lst (rowsD (ws ++ listsWd w P))])
  | [], ws, _, _ => by rw [show lvL [] = [] from rfl, forX_nil, show listsWd w [] = [] from rfl, List.append_nil]
  | ns :: P, ws, h, hl => by
    have hn := h ns List.mem_cons_self
    have h5 := hn.1
    rw [List.length_cons, Nat.add_mul] at hl
    have rl : ∀ L : List (List Nat), (rowsD L).length = L.length := fun L => List.length_map _
    have ra : ∀ A B : List (List Nat), rowsD A ++ rowsD B = rowsD (A ++ B) := fun A B => (List.map_append).symm
    have g0 : atI (D.str (tx w) :: X) 0 = some (.str (tx w)) := atI_nat (j := 0) rfl
    have e1 : lvL (ns :: P) = .vl (qqL ns) :: lvL P := rfl
    rw [e1]
    obtain ⟨R, hR⟩ : ∃ R, R = lvL P := ⟨_, rfl⟩
    by_cases hw : w = [116, 117, 114, 110]
    · have eb : listsWd w (ns :: P) = [[124]] ++ ns.map TL.numL ++ listsWd w P := by
        show ((if w = [116, 117, 114, 110] then [[124]] else []) ++ ns.map TL.numL) ++ listsWd w P = _
        rw [if_pos hw]
      have ih := sh_loop w X S P (ws ++ [[124]] ++ ns.map TL.numL) (fun m hm => h m (List.mem_cons_of_mem _ hm)) (by rw [List.length_append, List.length_append, List.length_map]; show _ + 1 + _ + _ ≤ _; omega)
      have gl : (S ++ [O.lst (rowsD ws)])[S.length]? = some (.lst (rowsD ws)) := get_last _ _
      have lt : ((rowsD ws).length < sizeLine) = True := lt_line (by rw [rl]; omega)
      have sn : rowsD ws ++ [D.str (tx [124])] = rowsD (ws ++ [[124]]) := ra ws [[124]]
      have le := lExt8 (a := rowsD (ws ++ [[124]])) (b := rowsD (ns.map TL.numL)) S (by rw [rl, rl, List.length_append, List.length_map]; show _ + 1 + _ ≤ _; omega)
      have le2 := ext8 (a := rowsD (ws ++ [[124]])) (b := rowsD (ns.map TL.numL)) S (by rw [rl, rl, List.length_append, List.length_map]; show _ + 1 + _ ≤ _; omega)
      rw [ra] at le le2
      have gl2 : (S ++ [O.lst (rowsD (ws ++ [[124]]))])[S.length]? = some (.lst (rowsD (ws ++ [[124]]))) := get_last _ _
      have lc := fun a b c S => sh_lc a b c hn S
      have e : ws ++ listsWd w (ns :: P) = ws ++ [[124]] ++ ns.map TL.numL ++ listsWd w P := by rw [eb]; simp
      rw [e]
      obtain ⟨Q, hQ⟩ : ∃ Q, Q = qqL ns := ⟨_, rfl⟩
      rw [← hR] at ih ⊢
      rw [← hQ] at lc ⊢
      obtain ⟨A, hA⟩ : ∃ A, A = rowsD ws := ⟨_, rfl⟩
      obtain ⟨B, hB⟩ : ∃ B, B = rowsD (ws ++ [[124]]) := ⟨_, rfl⟩
      obtain ⟨C, hC⟩ : ∃ C, C = rowsD (ws ++ [[124]] ++ ns.map TL.numL) := ⟨_, rfl⟩
      rw [← hA] at gl lt sn ⊢
      rw [← hB] at sn le le2 gl2
      rw [← hC] at le le2 ih
      simp! only [g0, tx_deq, decide_eq_true hw, gl, lt, set_last, sn, kLV_fix, lc, gl2, lsmO_vl, le, le2, ih]
    · have eb : listsWd w (ns :: P) = ns.map TL.numL ++ listsWd w P := by
        show ((if w = [116, 117, 114, 110] then [[124]] else []) ++ ns.map TL.numL) ++ listsWd w P = _
        rw [if_neg hw, List.nil_append]
      have ih := sh_loop w X S P (ws ++ ns.map TL.numL) (fun m hm => h m (List.mem_cons_of_mem _ hm)) (by rw [List.length_append, List.length_map]; omega)
      have le := lExt8 (a := rowsD ws) (b := rowsD (ns.map TL.numL)) S (by rw [rl, rl, List.length_map]; omega)
      have le2 := ext8 (a := rowsD ws) (b := rowsD (ns.map TL.numL)) S (by rw [rl, rl, List.length_map]; omega)
      rw [ra] at le le2
      have gl2 : (S ++ [O.lst (rowsD ws)])[S.length]? = some (.lst (rowsD ws)) := get_last _ _
      have lc := fun a b c S => sh_lc a b c hn S
      have e : ws ++ listsWd w (ns :: P) = ws ++ ns.map TL.numL ++ listsWd w P := by rw [eb]; simp
      rw [e]
      obtain ⟨Q, hQ⟩ : ∃ Q, Q = qqL ns := ⟨_, rfl⟩
      rw [← hR] at ih ⊢
      rw [← hQ] at lc ⊢
      obtain ⟨A, hA⟩ : ∃ A, A = rowsD ws := ⟨_, rfl⟩
      obtain ⟨C, hC⟩ : ∃ C, C = rowsD (ws ++ ns.map TL.numL) := ⟨_, rfl⟩
      rw [← hA] at le le2 gl2 ⊢
      rw [← hC] at le le2 ih
      simp! only [g0, tx_deq, decide_eq_false hw, kLV_fix, lc, gl2, lsmO_vl, le, le2, ih]
theorem shown_lists {w : List Nat} (hw : w ≠ [100, 101, 101, 100]) {P : List (List Nat)} (hP : ∀ ns ∈ P, Few ns) (hl : P.length ≤ 7) (hj : (TL.joinL [32] (w :: listsWd w P)).length ≤ 3000 ∧ lensum (w :: listsWd w P) + (w :: listsWd w P).length ≤ 16777216) (S : Sto) : f_row_shown [.tup (.str (tx w) :: lvL P)] S = .ok (.str (tx (TL.joinL [32] (w :: listsWd w P)))) S := by
  have g0 : atI (D.str (tx w) :: lvL P) 0 = some (.str (tx w)) := atI_nat (j := 0) rfl
  have lo := sh_loop w (lvL P) S P [w] hP (by rw [List.length_cons, List.length_nil]; omega)
  have lo' : forX (.nm 2) shB (lvL P) [some (.tup (.str (tx w) :: lvL P)), some (.loc S.length), none, none] (S ++ [.lst [.str (tx w)]]) = .nx [some (.tup (.str (tx w) :: lvL P)), some (.loc S.length), none, none] (S ++ [.lst (rowsD (w :: listsWd w P))]) := lo
  have itT_ : ∀ S, itT (.tup (lvL P)) S = some ⟨fixGet (lvL P), (lvL P).length + 1⟩ := fun _ => rfl
  have rl : ((lvL P).length < (lvL P).length + 1) = True := eq_true (Nat.lt_succ_self _)
  have pt : (D.tup (.str (tx w) :: lvL P)).pureB = true := by
    show pureAll (_ :: lvL P) = true
    rw [pureAll_cons, lvL_pure] <;> rfl
  have jn : ∀ S, joinD (.str (tx [32])) [.vl (rowsD (w :: listsWd w P))] S = .ok (.str (tx (TL.joinL [32] (w :: listsWd w P)))) S := fun S => join_tx rfl (by rw [List.length_singleton, Nat.mul_one]; exact hj.2)
  have sc : scpR S (.nx [some (.tup (.str (tx w) :: lvL P)), some (.loc S.length), none, none] (S ++ [.lst (rowsD (w :: listsWd w P))])) = .nx [some (.tup (.str (tx w) :: lvL P)), some (.vl (rowsD (w :: listsWd w P))), none, none] S :=
    scp_genB (optAll_cons (fs_pureB pt) (optAll_cons (fs_lstB (rows_pure _)) rfl))
  have iss : ∀ S, isStr (.str (tx [32])) S = true := fun _ => rfl
  unfold f_row_shown b_row_shown
  rw [de_tx, tu_tx, bar_tx, bl_tx]
  obtain ⟨R, hR⟩ : ∃ R, R = lvL P := ⟨_, rfl⟩
  obtain ⟨W, hW⟩ : ∃ W, W = rowsD (w :: listsWd w P) := ⟨_, rfl⟩
  rw [← hR] at g0 lo' itT_ rl sc ⊢
  rw [← hW] at lo' jn sc
  simp! only [g0, tx_deq, decide_eq_false hw, cutW, itT_, for_fix, rl, lo', sc, iss, jn]
theorem row_shown_spec {t : List Nat} {d : D} (h : Sh t d) (S : Sto) : f_row_shown [d] S = .ok (.str (tx t)) S := by
  cases h with
  | @deed x a hx ha hal h10 =>
    unfold f_row_shown b_row_shown
    rw [ar_tx]
    have xl := hx.len
    have rs := fun S => deed_shown_spec hx S
    have a1 := fun S => app_tx (tr := false) (a := x.t) (b := [32, 45, 62, 32]) (S := S) (by show _ + 4 ≤ _; omega)
    have a2 := fun S => app_tx (tr := false) (a := x.t ++ [32, 45, 62, 32]) (b := a) (S := S) (by rw [List.length_append]; show _ + 4 + _ ≤ _; omega)
    have e : x.t ++ (AR ++ a) = x.t ++ [32, 45, 62, 32] ++ a := by simp
    rw [e]
    obtain ⟨X, hX⟩ : ∃ X, X = x.d := ⟨_, rfl⟩
    rw [← hX] at rs ⊢
    have g0 : atI [D.str "deed", X, .str (tx a)] 0 = some (.str "deed") := rfl
    have g1 : atI [D.str "deed", X, .str (tx a)] 1 = some X := rfl
    have g2 : atI [D.str "deed", X, .str (tx a)] 2 = some (.str (tx a)) := rfl
    simp! only [g0, g1, g2, rs, a1, a2]
  | bep hb =>
    have hz : ∀ b ∈ BEP, b ≠ [100, 101, 101, 100] ∧ b.length ≤ 10 := by decide
    have := shown_lists (w := t) (hz t hb).1 (P := []) (fun m hm => nomatch hm) (by decide) ⟨by
      show (TL.joinL [32] [t]).length ≤ 3000
      have := (hz t hb).2
      show t.length ≤ 3000
      omega, by
      have := (hz t hb).2
      show t.length + 0 + (0 + 1) ≤ 16777216
      omega⟩ S
    exact this
  | @freed ns hf =>
    have g := good_freed hf
    have e : listsWd frW [ns] = freedW ns := by
      show ((if frW = [116, 117, 114, 110] then [[124]] else []) ++ ns.map TL.numL) ++ [] = _
      rw [if_neg (by decide), List.nil_append, List.append_nil] <;> rfl
    have := shown_lists (w := frW) (by decide) (P := [ns]) (fun m hm => by rw [List.mem_singleton.mp hm]; exact hf) (show 1 ≤ 7 by decide) (by
      rw [e]
      refine ⟨g.2.2.1, ?_⟩
      have := lensum_le (k := 60) (ts := frW :: freedW ns) fun p hp => by
        rcases List.mem_cons.mp hp with rfl | hp
        · decide
        · obtain ⟨n, hn, rfl⟩ := List.mem_map.mp hp
          exact TL.numL_len (by decide) (hf.2 n hn)
      have l2 : (frW :: freedW ns).length = ns.length + 1 := by rw [List.length_cons]; unfold freedW; rw [List.length_map]
      have := hf.1
      omega) S
    rw [e, ← fr_tx] at this
    exact this
  | @turn P hP hF =>
    have g := good_turn hP hF
    have e : listsWd tuW P = turnW P := by
      unfold listsWd turnW
      rw [if_pos rfl] <;> rfl
    have := shown_lists (w := tuW) (by decide) hF (by omega) (by
      rw [e]
      refine ⟨g.2.2.1, ?_⟩
      have bd := turnW_bd hP hF
      have := lensum_le (k := 60) (ts := tuW :: turnW P) fun p hp => by
        rcases List.mem_cons.mp hp with rfl | hp
        · decide
        · rcases turnW_mem hp with rfl | ⟨ns, hns, n, hn, rfl⟩
          · decide
          · exact TL.numL_len (by decide) ((hF ns hns).2 n hn)
      have l2 : (tuW :: turnW P).length = (turnW P).length + 1 := List.length_cons
      have := bd.2
      omega) S
    rw [e, ← tu_tx] at this
    exact this
theorem ShL.at : ∀ {R : List (List Nat)} {ds : List D}, ShL R ds → ∀ d ∈ ds, ∃ t, Sh t d
  | [], [], _, d, hd => nomatch hd
  | t :: R, d0 :: ds, h, d, hd => by
    rcases List.mem_cons.mp hd with rfl | hd
    · exact ⟨t, h.1⟩
    · exact ShL.at h.2 d hd
  | [], _ :: _, h, _, _ => h.elim
  | _ :: _, [], h, _, _ => h.elim
theorem ShL.map {F : D → D} (hF : ∀ t d, Sh t d → F d = .str (tx t)) : ∀ {R : List (List Nat)} {ds : List D}, ShL R ds → ds.map F = rowsD R
  | [], [], _ => rfl
  | t :: R, d :: ds, h => by
    rw [List.map_cons, hF t d h.1, ShL.map hF h.2] <;> rfl
  | [], _ :: _, h => h.elim
  | _ :: _, [], h => h.elim
/-- any def that gives each row its text, over a whole log -/
theorem rows_lc {g : MFn} {R : List (List Nat)} {ds : List D} {i : Nat} {me : MEx} {ρ : Rho} {S : Sto} (h : ShL R ds) (hg : ∀ t d, Sh t d → ∀ S, g [d] S = .ok (.str (tx t)) S) (hs : ∀ d v acc, (∀ S, g [d] S = .ok v S) → ∃ ρ1, tgM (.nm i) d ρ (S ++ [.lst acc]) = some ρ1 ∧ me ρ1 (S ++ [.lst acc]) = .ok v (S ++ [.lst acc])) (hl : ds.length ≤ 1000) :
    lcF ds (ds.length + 1) (.nm i) tYesM me ρ S = .ok (.vl (rowsD R)) S := by
  classical
  let F : D → D := fun d => if hd : ∃ t, Sh t d then .str (tx (Classical.choose hd)) else .non
  have hF : ∀ t d, Sh t d → F d = .str (tx t) := fun t d ht => by
    have hx : ∃ t, Sh t d := ⟨t, ht⟩
    have e : F d = .str (tx (Classical.choose hx)) := dif_pos hx
    have e1 := hg t d ht []
    rw [hg _ d (Classical.choose_spec hx)] at e1
    injection e1 with e1
    rw [e, e1]
  rw [← h.map hF]
  refine lcF_map F (fun d hd acc => ?_) rfl (by omega) (by rw [h.map hF]; exact rows_pure _)
  obtain ⟨t, ht⟩ := h.at d hd
  obtain ⟨ρ1, e1, e2⟩ := hs d (.str (tx t)) acc (hg t d ht)
  exact ⟨ρ1, e1, by rw [hF t d ht]; exact e2⟩
theorem shown_spec {R : List (List Nat)} {ds : List D} (h : ShL R ds) (hk : R.length ≤ 1000) (hl : ds.length ≤ 1000) (S : Sto) : f_log_shown [.vl ds] S = .ok (.str (tx (TL.joinL [10] R))) S := by
  have lc : ∀ S, lcF ds (ds.length + 1) (.nm 1) tYesM (mCall 1 f_row_shown (aCons (mVar 1) aNil)) [some (.vl ds), none] S = .ok (.vl (rowsD R)) S := fun S => rows_lc h (fun t d ht S => row_shown_spec ht S) (fun d v acc hv => ⟨_, tgM_nm, by simp! only [hv]⟩) hl
  have jn : ∀ S, joinD (.str (tx [10])) [.vl (rowsD R)] S = .ok (.str (tx (TL.joinL [10] R))) S := fun S => by
    refine join_tx rfl ?_
    have := lensum_le (k := 3000) (ts := R) fun t ht => by
      obtain ⟨d, g⟩ := h.good t ht
      exact g.2.2.1
    rw [List.length_cons, List.length_nil]
    omega
  have iss : ∀ S, isStr (.str (tx [10])) S = true := fun _ => rfl
  unfold f_log_shown b_log_shown
  rw [nl_tx]
  simp! only [kLV_fix, lc, jn, iss]

set_option Elab.async false
set_option linter.all false
set_option maxRecDepth 100000
set_option maxHeartbeats 4000000
theorem cell_at_spec {ns : List Int} {k : Nat} (S : Sto) : f_law_cell_at [.cl (ns.map .int), .int k] S = .ok (.int (ns.getD k 0)) S := by
  unfold f_law_cell_at b_law_cell_at
  by_cases h : k < ns.length
  · have d1 : decide ((k : Int) < ((ns.map D.int).length : Nat)) = true := decide_eq_true (by simpa using h)
    have e1 : atI (ns.map D.int) (k : Int) = some (.int (ns.getD k 0)) := atI_nat (by simp [h])
    simp! only [d1, e1]
  · have d1 : decide ((k : Int) < ((ns.map D.int).length : Nat)) = false := decide_eq_false (by simpa using h)
    simp! only [d1]
    simp [List.getD_eq_getElem?_getD, List.getElem?_eq_none (show ns.length ≤ k by omega)]
theorem cell_at_0 {ns : List Int} (S : Sto) : f_law_cell_at [.cl (ns.map .int), .int 0] S = .ok (.int (ns.getD 0 0)) S := cell_at_spec (k := 0) S
theorem Sh.parts {t : List Nat} {d : D} (h : Sh t d) : ∃ xs, d = .tup xs ∧ xs.length ≤ 8 ∧ ∀ x ∈ xs, (∃ z, x = .str z) ∨ (∃ ys, x = .tup ys) ∨ ∃ ys, x = .vl ys ∧ pureAll ys = true := by
  cases h with
  | @deed x a hx ha hal h10 =>
    refine ⟨_, rfl, (show 3 ≤ 8 by decide), fun y hy => ?_⟩
    rcases List.mem_cons.mp hy with rfl | hy
    · exact .inl ⟨_, rfl⟩
    · rcases List.mem_cons.mp hy with rfl | hy
      · exact .inr (.inl ⟨_, rfl⟩)
      · exact .inl ⟨_, List.mem_singleton.mp hy⟩
  | bep hb => exact ⟨_, rfl, (show 1 ≤ 8 by decide), fun y hy => .inl ⟨_, List.mem_singleton.mp hy⟩⟩
  | @freed ns hf =>
    refine ⟨_, rfl, (show 2 ≤ 8 by decide), fun y hy => ?_⟩
    rcases List.mem_cons.mp hy with rfl | hy
    · exact .inl ⟨_, rfl⟩
    · exact .inr (.inr ⟨_, List.mem_singleton.mp hy, qqL_pure ns⟩)
  | @turn P hP hF =>
    refine ⟨_, rfl, by rw [List.length_cons, lvL_len, hP]; exact Nat.le_refl _, fun y hy => ?_⟩
    rcases List.mem_cons.mp hy with rfl | hy
    · exact .inl ⟨_, rfl⟩
    · obtain ⟨ns, _, rfl⟩ := List.mem_map.mp hy
      exact .inr (.inr ⟨_, rfl, qqL_pure ns⟩)
theorem ShL_map (dt : Int → List Nat × D) : ∀ xs : List Int, (∀ c ∈ xs, Sh (dt c).1 (dt c).2) → ShL (xs.map fun c => (dt c).1) (xs.map fun c => (dt c).2)
  | [], _ => trivial
  | c :: xs, h => ⟨h c List.mem_cons_self, ShL_map dt xs fun x hx => h x (List.mem_cons_of_mem _ hx)⟩
theorem law_true : ∀ ns : List Int, ns.length ≤ 63 → (∀ z ∈ ns, Builtin.Int.intBits z ≤ 1048576) → ∃ S', f_law [scr ns] [] = .ok (.bl true) S' := by
  intro ns hlen hbit
  have nb : ∀ z ∈ ns, z.natAbs < 2 ^ 1048576 := fun z hz => bits_lt (hbit z hz)
  obtain ⟨xs, hxs⟩ : ∃ xs : List Int, xs = (ns.drop 2).take 61 := ⟨_, rfl⟩
  have xl : xs.length ≤ 61 := by rw [hxs, List.length_take]; omega
  have xb : ∀ z ∈ xs, z.natAbs < 2 ^ 1048576 := fun z hz => nb z (by rw [hxs] at hz; exact List.mem_of_mem_drop (List.mem_of_mem_take hz))
  have cut : cutD (ns.map D.int) (some 2) (some 63) = xs.map D.int := by
    have := cut_both (xs := ns.map D.int) (a := 2) (b := 63)
    rw [hxs, List.map_take, List.map_drop]
    exact this
  have pxs : pureAll (xs.map D.int) = true := pureAll_ints
  have c0 := fun S => cell_at_0 (ns := ns) S
  obtain ⟨fr, hfr⟩ : ∃ fr : Bool, fr = decide (ns.getD 0 0 % 2 = 0) := ⟨_, rfl⟩
  have m2 := fun S => mod_int (S := S) (i := ns.getD 0 0) (j := 2) (by decide)
  classical
  have pick : ∀ c : Int, ∃ p : List Nat × D, c ∈ xs → Sh p.1 p.2 ∧ (∀ S, f_law_log_row [.int c, .bl fr] S = .ok p.2 S) ∧ (∀ S, f_law_log_text [p.2] S = .ok (.str (tx p.1)) S) := fun c => by
    by_cases hc : c ∈ xs
    · obtain ⟨t, d, h⟩ := law_log_row_spec (xb c hc) fr
      exact ⟨(t, d), fun _ => h⟩
    · exact ⟨([], .non), fun z => absurd z hc⟩
  obtain ⟨dt, hdt⟩ := Classical.axiomOfChoice pick
  obtain ⟨R, hR⟩ : ∃ R, R = xs.map fun c => (dt c).1 := ⟨_, rfl⟩
  obtain ⟨X, hX⟩ : ∃ X, X = xs.map fun c => (dt c).2 := ⟨_, rfl⟩
  have Rl : R.length ≤ 61 := by rw [hR, List.length_map]; exact xl
  have Xl : X.length ≤ 61 := by rw [hX, List.length_map]; exact xl
  have L : ShL R X := by rw [hR, hX]; exact ShL_map dt xs fun c hc => (hdt c hc).1
  have Xd : ∀ x ∈ X, x.dat = true ∧ x.dep ≤ 2 := fun x hx => by
    obtain ⟨t, ht⟩ := L.at x hx
    exact rowT_dat ht.good.1
  have datX : (D.vl X).dat = true := datA_mem fun x hx => (Xd x hx).1
  have depX : (D.vl X).dep ≤ 8 := by
    have := depA_mem (k := 2) fun x hx => (Xd x hx).2
    show depAll X + 1 ≤ 8
    omega
  have pX : pureAll X = true := pureAll_mem.mpr fun x hx => dat_pure (Xd x hx).1
  have l1 : ∀ S, lcF (xs.map D.int) ((xs.map D.int).length + 1) (.nm 9) tYesM (mCall 2 f_law_log_row (aCons (mVar 9) (aCons (mVar 1) aNil))) [some (.cl (ns.map .int)), some (.bl fr), none, none, none, none, none, none, none, none, none] S = .ok (.vl X) S := fun S => by
    let F : D → D := fun d => match d with | .int c => (dt c).2 | _ => .non
    have e : (xs.map D.int).map F = X := by rw [hX, List.map_map] <;> rfl
    rw [← e]
    refine lcF_map F (fun d hd acc => ⟨_, tgM_nm, ?_⟩) rfl (by rw [List.length_map]; omega) (by rw [e]; exact pX)
    obtain ⟨c, hc, rfl⟩ := List.mem_map.mp hd
    have hh := (hdt c hc).2.1
    simp! only [hh]
    rfl
  have l2 : ∀ S, lcF X (X.length + 1) (.nm 7) tYesM (mCall 1 f_law_log_text (aCons (mVar 7) aNil)) [some (.cl (ns.map .int)), some (.bl fr), some (.vl X), none, none, none, none, none, none, none, none] S = .ok (.vl (rowsD R)) S := fun S => by
    have hh : ∀ d : D, ∃ e : D, d ∈ X → ∃ t, e = .str (tx t) ∧ ∀ S, f_law_log_text [d] S = .ok e S := fun d => by
      by_cases hd : d ∈ X
      · rw [hX] at hd
        obtain ⟨c, hc, rfl⟩ := List.mem_map.mp hd
        exact ⟨_, fun _ => ⟨_, rfl, (hdt c hc).2.2⟩⟩
      · exact ⟨.non, fun z => absurd z hd⟩
    obtain ⟨F, hF⟩ := Classical.axiomOfChoice hh
    have hXF : X.map F = rowsD R := by
      rw [hX, hR]
      unfold rowsD
      rw [List.map_map, List.map_map]
      refine List.map_congr_left fun c hc => ?_
      obtain ⟨t, e, h⟩ := hF (dt c).2 (by rw [hX]; exact List.mem_map.mpr ⟨c, hc, rfl⟩)
      have h1 := h []
      rw [(hdt c hc).2.2] at h1
      injection h1 with h1
      exact h1.symm
    rw [← hXF]
    refine lcF_map F (fun d hd acc => ⟨_, tgM_nm, ?_⟩) rfl (by omega) (by rw [hXF]; exact rows_pure _)
    obtain ⟨t, e, h⟩ := hF d hd
    simp! only [h]
  obtain ⟨T, hT⟩ : ∃ T, T = tx (TL.joinL [10] R) := ⟨_, rfl⟩
  have l3 : ∀ S, lcF X (X.length + 1) (.nm 7) tYesM (mCB cTuple (aCons (mLcV (miT (mVar 7)) (.nm 10) tYesM (mIfE (mTest (mIsi "list" (mVar 10))) (mCB (cListU false) (aCons (mVar 10) aNil)) (mVar 10)) [10]) aNil)) [some (.cl (ns.map .int)), some (.bl fr), some (.vl X), some (.str T), none, none, none, none, none, none, none] S = .ok (.vl X) S := fun S => by
    have e : X.map (fun d => d) = X := List.map_id _
    have := lcF_map (t := .nm 7) (me := mCB cTuple (aCons (mLcV (miT (mVar 7)) (.nm 10) tYesM (mIfE (mTest (mIsi "list" (mVar 10))) (mCB (cListU false) (aCons (mVar 10) aNil)) (mVar 10)) [10]) aNil)) (ρ := [some (.cl (ns.map .int)), some (.bl fr), some (.vl X), some (.str T), none, none, none, none, none, none, none]) (S := S) (xs := X) (k := X.length + 1) (fun d => d) (fun d hd acc => ⟨_, tgM_nm, by
      obtain ⟨t, ht⟩ := L.at d hd
      obtain ⟨ys, rfl, yl, hy⟩ := ht.parts
      have yp : pureAll ys = true := dat_pure (Xd _ hd).1
      have inn : ∀ S, lcF ys (ys.length + 1) (.nm 10) tYesM (mIfE (mTest (mIsi "list" (mVar 10))) (mCB (cListU false) (aCons (mVar 10) aNil)) (mVar 10)) [some (.cl (ns.map .int)), some (.bl fr), some (.vl X), some (.str T), none, none, none, some (.tup ys), none, none, none] S = .ok (.vl ys) S := fun S => by
        have e : ys.map (fun d => d) = ys := List.map_id _
        have := lcF_map (t := .nm 10) (me := mIfE (mTest (mIsi "list" (mVar 10))) (mCB (cListU false) (aCons (mVar 10) aNil)) (mVar 10)) (ρ := [some (.cl (ns.map .int)), some (.bl fr), some (.vl X), some (.str T), none, none, none, some (.tup ys), none, none, none]) (S := S) (xs := ys) (k := ys.length + 1) (fun d => d) (fun x hx acc => ⟨_, tgM_nm, by
          rcases hy x hx with ⟨z, rfl⟩ | ⟨zs, rfl⟩ | ⟨zs, rfl, hz⟩
          · simp! only []
          · simp! only []
          · have cl : ∀ S, cListU false [.vl zs] S = .ok (.vl zs) S := fun S => by simp! only [hz]
            simp! only [cl]⟩) rfl (by omega) (by rw [e]; exact yp)
        rw [e] at this
        exact this
      have itT_ : ∀ S, itT (.tup ys) S = some ⟨fixGet ys, ys.length + 1⟩ := fun _ => rfl
      have ctp : ∀ S, cTuple [.vl ys] S = .ok (.tup ys) S := fun _ => rfl
      simp! only [itT_, kLV_fix, inn, ctp]⟩) rfl (by omega) (by rw [e]; exact pX)
    rw [e] at this
    exact this
  have jn : ∀ S, joinD (.str (tx [10])) [.vl (rowsD R)] S = .ok (.str T) S := fun S => by
    rw [hT]
    refine join_tx rfl ?_
    have := lensum_le (k := 3000) (ts := R) fun t ht => by
      obtain ⟨d, g⟩ := L.good t ht
      exact g.2.2.1
    rw [List.length_cons, List.length_nil]
    omega
  have iss : ∀ S, isStr (.str (tx [10])) S = true := fun _ => rfl
  have sh : ∀ S, f_log_shown [.vl X] S = .ok (.str T) S := fun S => by rw [hT]; exact shown_spec L (by omega) (by omega) S
  have sh0 : ∀ S, f_log_shown [.vl []] S = .ok (.str (tx [])) S := fun S => shown_spec (R := []) (ds := []) trivial (by decide) (by decide) S
  have nT : ∀ S, neR (.str T) (.str T) S = .ok (.bl false) S := fun S => by rw [hT, ne_tx, decide_eq_true rfl] <;> rfl
  have eT : ∀ S, eqR (.str T) (.str T) S = .ok (.bl true) S := fun S => by rw [hT, eq_tx, decide_eq_true rfl]
  have nX : ∀ S, neR (.vl X) (.vl X) S = .ok (.bl false) S := fun S => neR_refl datX depX
  have eX : ∀ S, eqR (.vl X) (.vl X) S = .ok (.bl true) S := fun S => eqR_refl datX depX
  -- read, and changed
  obtain ⟨rs, T0, t1, t2, t3, t4⟩ := lread_tr L (by omega) []
  have rep : RepL (.lst rs :: T0) 1 rs X := t4 (.lst rs :: T0) fun i o ho => by
    rw [show ([] : Sto).length + 1 + i = i + 1 by show 0 + 1 + i = _; omega]
    exact ho
  rw [← hT] at t3
  have t3' : f_log_read [.str T] [] = .ok (.loc 0) (.lst rs :: T0) := t3
  have fn := found_ne (Z := []) rep Xd
  have fm := form_spec rep t1 (by omega)
  obtain ⟨T1, s1, s2⟩ := ap_loop (.cl (ns.map .int)) (.bl fr) (.vl X) (.str T) (.vl X) (.str T) rep t1 (by omega)
  have ap := s2 _ rfl
  have g0 : (O.lst rs :: T0)[0]? = some (.lst rs) := rfl
  have g1 : (O.lst rs :: T1)[0]? = some (.lst rs) := rfl
  have lt : (rs.length < sizeLine) = True := lt_line (by omega)
  have st : (O.lst rs :: T1).set 0 (.lst (rs ++ [.str "more"])) = .lst (rs ++ [.str "more"]) :: T1 := rfl
  obtain ⟨Z0, hZ0⟩ : ∃ Z : Sto, Z = .lst rs :: T0 := ⟨_, rfl⟩
  obtain ⟨Z1, hZ1⟩ : ∃ Z : Sto, Z = .lst rs :: T1 := ⟨_, rfl⟩
  obtain ⟨Z2, hZ2⟩ : ∃ Z : Sto, Z = .lst (rs ++ [.str "more"]) :: T1 := ⟨_, rfl⟩
  rw [← hZ0] at t3' fn fm ap g0
  rw [← hZ1] at ap g1 st
  rw [← hZ2] at st
  -- read anew
  have rT : ∀ S, exitR false S (f_log_read [.str T] S) = .ok (.vl X) S := fun S => by rw [hT]; exact read_fz L (by omega) (fun d hd => (Xd d hd).1) S
  have r0 : ∀ S, exitR false S (f_log_read [.str (tx [])] S) = .ok (.vl []) S := fun S => read_fz (R := []) (ds := []) trivial (by decide) (fun d hd => nomatch hd) S
  have be : ("begin" : Str) = tx [98, 101, 103, 105, 110] := tx_str (by decide +kernel)
  have rb : ∀ S, exitR false S (f_log_read [.str (tx [98, 101, 103, 105, 110])] S) = .ok (.vl [.tup [.str (tx [98, 101, 103, 105, 110])]]) S := fun S =>
    read_fz (R := [[98, 101, 103, 105, 110]]) (ds := [.tup [.str (tx [98, 101, 103, 105, 110])]]) ⟨.bep (by decide), trivial⟩ (show 1 ≤ 1000 by decide) (fun d hd => by
      rw [List.mem_singleton.mp hd]
      exact (rowT_dat (good_bep (l := [98, 101, 103, 105, 110]) (by decide)).1).1) S
  have n0 : ∀ S, neR (.vl []) (.vl []) S = .ok (.bl false) S := fun S => neR_refl rfl (by decide)
  have nbg : ∀ S, neR (.vl [.tup [.str (tx [98, 101, 103, 105, 110])]]) (.vl [.tup [.str (tx [98, 101, 103, 105, 110])]]) S = .ok (.bl false) S := fun S => neR_refl (by
    have := (rowT_dat (good_bep (l := [98, 101, 103, 105, 110]) (by decide)).1).1
    show ((D.tup [.str (tx [98, 101, 103, 105, 110])]).dat && true) = true
    rw [this] <;> rfl) (by decide)
  have hf2 : decide (ns.getD 0 0 % 2 = 0) = fr := hfr.symm
  unfold f_law b_law
  rw [nl_tx, em_tx, be]
  unfold scr
  simp! only [c0, m2, hf2, cut, pxs, kLV_fix, l1, l2, jn, iss, l3, sh, nT, nX, t3', g0, r_ty, kTy_l, fn, fm, ap, g1, lt, st, r0, n0, sh0, tx_deq, rb, nbg, rT, eX, eT]
  exact ⟨_, rfl⟩
end MP

set_option Elab.async false
set_option linter.all false
set_option maxRecDepth 100000
set_option maxHeartbeats 4000000
open PySem PySem.W PyProof.Rows
set_option maxRecDepth 100000 in
set_option maxHeartbeats 0 in
theorem PySem.Challenge.cw_heapsafe_k80_logs_both_ways_holds : PySem.Challenge.rw_heapsafe_k80_logs_both_ways.Holds := by
  w_on; o_law; k_head; (case hw => w_witness2)
  k_fill
  refine MP.walk (l := PySem.Challenge.rw_heapsafe_k80_logs_both_ways) rfl rfl MP.law_true (fun w h Y => PySem.W.kIn_of Y) ?F
  case F =>
    intro w mg fa h KX Gn hmg
    refine' MP.all_mk KX Gn hmg ?g_law_cell_at ?l_law_cell_at ?c_law_cell_at1 ?k_law_cell_at ?g_law_whole ?l_law_whole ?c_law_whole1 ?k_law_whole ?g_law_form ?l_law_form ?c_law_form1 ?k_law_form ?g_law_drawn ?l_law_drawn ?c_law_drawn1 ?k_law_drawn ?g_law_deed_by ?l_law_deed_by ?c_law_deed_by1 ?k_law_deed_by ?g_law_numbers ?l_law_numbers ?c_law_numbers1 ?k_law_numbers ?g_law_log_row ?l_law_log_row ?c_law_log_row1 ?k_law_log_row ?g_law_row ?l_law_row ?c_law_row1 ?k_law_row ?g_law_log_text ?l_law_log_text ?c_law_log_text1 ?k_law_log_text ?g_number_told ?l_number_told ?c_number_told1 ?k_number_told ?g_part_told ?l_part_told ?c_part_told1 ?k_part_told ?g_deed_told ?l_deed_told ?c_deed_told1 ?k_deed_told ?g_is_answer ?l_is_answer ?c_is_answer1 ?k_is_answer ?g_deed_row_told ?l_deed_row_told ?c_deed_row_told1 ?k_deed_row_told ?g_freed_told ?l_freed_told ?c_freed_told1 ?k_freed_told ?g_turn_told ?l_turn_told ?c_turn_told1 ?k_turn_told ?g_row_told ?l_row_told ?c_row_told1 ?k_row_told ?g_log_read ?l_log_read ?c_log_read1 ?k_log_read ?g_deed_shown ?l_deed_shown ?c_deed_shown1 ?k_deed_shown ?g_row_shown ?l_row_shown ?c_row_shown1 ?k_row_shown ?g_log_shown ?l_log_shown ?c_log_shown1 ?k_log_shown ?g_law ?l_law ?c_law1 ?k_law ?aK_FORMS ?sD_FORMS ?lD_FORMS ?hD_FORMS ?aK_ANSWERS ?lK_ANSWERS ?aK_FIGURES ?aK_LETTERS ?aK_LISTS ?aK_MOST_FIELDS ?z_abs ?z_any ?z_bool ?z_enumerate ?z_int ?z_isinstance ?z_len ?z_list ?z_range ?z_str ?z_tuple ?z_zip MP.law_true
    (case aK_FORMS => k_is)
    (case aK_ANSWERS => k_is)
    (case aK_FIGURES => k_is)
    (case aK_LETTERS => k_is)
    (case aK_LISTS => k_is)
    (case aK_MOST_FIELDS => k_is)
    (case g_law_cell_at => k_is)
    (case l_law_cell_at => k_is)
    (case c_law_cell_at1 => k_is)
    (case k_law_cell_at => k_is)
    (case g_law_whole => k_is)
    (case l_law_whole => k_is)
    (case c_law_whole1 => k_is)
    (case k_law_whole => k_is)
    (case g_law_form => k_is)
    (case l_law_form => k_is)
    (case c_law_form1 => k_is)
    (case k_law_form => k_is)
    (case g_law_drawn => k_is)
    (case l_law_drawn => k_is)
    (case c_law_drawn1 => k_is)
    (case k_law_drawn => k_is)
    (case g_law_deed_by => k_is)
    (case l_law_deed_by => k_is)
    (case c_law_deed_by1 => k_is)
    (case k_law_deed_by => k_is)
    (case g_law_numbers => k_is)
    (case l_law_numbers => k_is)
    (case c_law_numbers1 => k_is)
    (case k_law_numbers => k_is)
    (case g_law_log_row => k_is)
    (case l_law_log_row => k_is)
    (case c_law_log_row1 => k_is)
    (case k_law_log_row => k_is)
    (case g_law_row => k_is)
    (case l_law_row => k_is)
    (case c_law_row1 => k_is)
    (case k_law_row => k_is)
    (case g_law_log_text => k_is)
    (case l_law_log_text => k_is)
    (case c_law_log_text1 => k_is)
    (case k_law_log_text => k_is)
    (case g_number_told => k_is)
    (case l_number_told => k_is)
    (case c_number_told1 => k_is)
    (case k_number_told => k_is)
    (case g_part_told => k_is)
    (case l_part_told => k_is)
    (case c_part_told1 => k_is)
    (case k_part_told => k_is)
    (case g_deed_told => k_is)
    (case l_deed_told => k_is)
    (case c_deed_told1 => k_is)
    (case k_deed_told => k_is)
    (case g_is_answer => k_is)
    (case l_is_answer => k_is)
    (case c_is_answer1 => k_is)
    (case k_is_answer => k_is)
    (case g_deed_row_told => k_is)
    (case l_deed_row_told => k_is)
    (case c_deed_row_told1 => k_is)
    (case k_deed_row_told => k_is)
    (case g_freed_told => k_is)
    (case l_freed_told => k_is)
    (case c_freed_told1 => k_is)
    (case k_freed_told => k_is)
    (case g_turn_told => k_is)
    (case l_turn_told => k_is)
    (case c_turn_told1 => k_is)
    (case k_turn_told => k_is)
    (case g_row_told => k_is)
    (case l_row_told => k_is)
    (case c_row_told1 => k_is)
    (case k_row_told => k_is)
    (case g_log_read => k_is)
    (case l_log_read => k_is)
    (case c_log_read1 => k_is)
    (case k_log_read => k_is)
    (case g_deed_shown => k_is)
    (case l_deed_shown => k_is)
    (case c_deed_shown1 => k_is)
    (case k_deed_shown => k_is)
    (case g_row_shown => k_is)
    (case l_row_shown => k_is)
    (case c_row_shown1 => k_is)
    (case k_row_shown => k_is)
    (case g_log_shown => k_is)
    (case l_log_shown => k_is)
    (case c_log_shown1 => k_is)
    (case k_log_shown => k_is)
    (case g_law => k_is)
    (case l_law => k_is)
    (case c_law1 => k_is)
    (case k_law => k_is)
    (case sD_FORMS => first | rfl | kernel_rfl | k_is)
    (case lD_FORMS => first | rfl | kernel_rfl | k_is)
    (case hD_FORMS => first | rfl | kernel_rfl | k_is)
    (case lK_ANSWERS => k_is)
    (case z_abs => k_is)
    (case z_any => k_is)
    (case z_bool => k_is)
    (case z_enumerate => k_is)
    (case z_int => k_is)
    (case z_isinstance => k_is)
    (case z_len => k_is)
    (case z_list => k_is)
    (case z_range => k_is)
    (case z_str => k_is)
    (case z_tuple => k_is)
    (case z_zip => k_is)
#print axioms PySem.Challenge.cw_heapsafe_k80_logs_both_ways_holds
