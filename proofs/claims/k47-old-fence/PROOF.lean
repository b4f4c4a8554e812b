import PyProof.Rows.All
import Wide.All
import OpenK.AllK
import Wide.FinOn
import PyProof.EqAt
import PyProof.EqKinds
import PyProof.TupleCall
import HandS.ForMost
import HandS.ForExc
import HandS.TryMany
import HandS.Wide
import HandS.WideBits
import HandS.IsInst
import HandS.CallSlots
import HandS.ClsMeth
import HandS.SortInts
import HandS.Strs
import HandS.Dict
import HandS.More
import HandS.New0
import HandS.DictComp
import HandS.Iter
import HandS.SortRule
import HandS.Finally
import HandS.ExcOwn
import HandS.Deep
import KE.KEqNest
import HandS.TupMul
import HandS.Conv
import HandS.Rev
import HandS.RevTup
import HandS.StrMore
import HandS.TupAny
import HandS.EndBits
import HandS.ExcIs
import PySem.Challenge.RW_heapsafe_k47_old_fence_holds
set_option Elab.async false
set_option linter.all false
set_option maxRecDepth 100000
set_option maxHeartbeats 2000000
namespace MP
open PySem L2

/-! ### values, objects, stores -/
inductive Cl where
  | Rooms | Thing | Plain | Pair | PlainHeap | Looker | Memory | Marking | Fence | New | Old | Heap | Desk
  deriving DecidableEq
inductive Fl where
  | many | cells | inside | row | last_words | named | made | line | heap | part | to_go | gone | rooms | memory | marking | fence | rows | phase | room
  deriving DecidableEq
def Cl.nm : Cl → Str
  | .Rooms => "Rooms" | .Thing => "Thing" | .Plain => "Plain" | .Pair => "Pair" | .PlainHeap => "PlainHeap" | .Looker => "Looker" | .Memory => "Memory"
  | .Marking => "Marking" | .Fence => "Fence" | .New => "New" | .Old => "Old" | .Heap => "Heap" | .Desk => "Desk"
def Fl.nm : Fl → Str
  | .many => "many" | .cells => "cells" | .inside => "inside" | .row => "row" | .last_words => "last_words" | .named => "named" | .made => "made"
  | .line => "line" | .heap => "heap" | .part => "part" | .to_go => "to_go" | .gone => "gone" | .rooms => "rooms" | .memory => "memory"
  | .marking => "marking" | .fence => "fence" | .rows => "rows" | .phase => "phase" | .room => "room"
/-- an own exception's class -/
inductive Xc where
  | NoDeed | NoLog | NoThing | NoField | NoRoom
  deriving DecidableEq
inductive D where
  | non | bl (b : Bool) | int (i : Int) | str (x : Str) | tup (xs : List D) | vl (xs : List D) | cl (xs : List D) | vd (ks : List Key) (xs : List D) | vo (c : Cl) (fs : List Fl) (xs : List D) | loc (l : Nat)
mutual
/-- no object of the store in it -/
def D.pureB : D → Bool
  | .loc _ => false
  | .tup xs => pureAll xs
  | _ => true
def pureAll : List D → Bool
  | [] => true
  | x :: xs => x.pureB && pureAll xs
end
mutual
/-- no object of the store from n on in it -/
def D.low (n : Nat) : D → Bool
  | .loc l => decide (l < n)
  | .tup xs => lowAll n xs
  | _ => true
def lowAll (n : Nat) : List D → Bool
  | [] => true
  | x :: xs => x.low n && lowAll n xs
end
inductive O where
  | lst (xs : List D)
  | dct (fz : Bool) (kvs : List (Key × D))
  | ins (c : Cl) (fs : List (Fl × D))
abbrev Sto := List O
abbrev Rho := List (Option D)
structure Ex where
  c : Xc
  v : Option D
inductive Res (α : Type) where
  | ok (a : α) (S : Sto) | exc (e : Ex) (S : Sto) | stuck
inductive SR where
  | nx (ρ : Rho) (S : Sto) | rt (d : D) (S : Sto) | bk (ρ : Rho) (S : Sto) | ct (ρ : Rho) (S : Sto) | xc (e : Ex) (ρ : Rho) (S : Sto) | stuck
def Res.bind {α β : Type} (r : Res α) (f : α → Sto → Res β) : Res β :=
  match r with
  | .ok a S => f a S
  | .exc e S => .exc e S
  | .stuck => .stuck
@[simp] theorem Res.bind_ok {α β : Type} (a : α) (S : Sto) (f : α → Sto → Res β) : (Res.ok a S).bind f = f a S := rfl
@[simp] theorem Res.bind_exc {α β : Type} (e : Ex) (S : Sto) (f : α → Sto → Res β) : (Res.exc e S).bind f = .exc e S := rfl
@[simp] theorem Res.bind_stuck {α β : Type} (f : α → Sto → Res β) : (Res.stuck : Res α).bind f = .stuck := rfl
abbrev MEx := Rho → Sto → Res D
abbrev MTs := Rho → Sto → Res Bool
abbrev MAr := Rho → Sto → Res (List D)
abbrev MSt := Rho → Sto → SR
abbrev MFn := List D → Sto → Res D
def Res.st {α : Type} (r : Res α) (ρ : Rho) (f : α → Sto → SR) : SR :=
  match r with
  | .ok a S => f a S
  | .exc e S => .xc e ρ S
  | .stuck => .stuck
@[simp] theorem Res.st_ok {α : Type} (a : α) (S : Sto) (ρ : Rho) (f : α → Sto → SR) : (Res.ok a S).st ρ f = f a S := rfl
@[simp] theorem Res.st_exc {α : Type} (e : Ex) (S : Sto) (ρ : Rho) (f : α → Sto → SR) : (Res.exc e S).st ρ f = .xc e ρ S := rfl
@[simp] theorem Res.st_stuck {α : Type} (ρ : Rho) (f : α → Sto → SR) : (Res.stuck : Res α).st ρ f = .stuck := rfl

/-! ### how it lies in the abstract heap -/
/-- where the text's classes lie -/
structure Ga where
  cl : Cl → Addr
  has : Cl → Bool
  xc : Xc → Addr
/-- the fields that a class's objects may have -/
def okF : Cl → Fl → Bool
  | .Rooms, .many => true | .Rooms, .cells => true | .Rooms, .inside => true
  | .Thing, .row => true | .Plain, .row => true | .Plain, .last_words => true | .Pair, .row => true
  | .PlainHeap, .named => true | .PlainHeap, .made => true | .PlainHeap, .line => true
  | .Looker, .heap => true | .Looker, .part => true | .Looker, .to_go => true | .Looker, .gone => true
  | .Memory, .rooms => true | .Marking, .memory => true | .Marking, .line => true
  | .Heap, .memory => true | .Heap, .marking => true | .Heap, .fence => true | .Heap, .named => true | .Heap, .line => true | .Heap, .rows => true
  | .Heap, .phase => true | .Heap, .room => true | .Heap, .made => true | .Desk, .heap => true
  | _, _ => false
/-- a list of the text's own top -/
def KSeq (K : PySem.W.Frag) (a : Addr) (vs : List V) : Prop := ∃ (o : Obj) (its : Array Value) (n : Nat), K.lookup a = some o ∧ o.cls = .type "list" ∧ o.dict = none ∧ o.data = .seq its n ∧ its.size ≤ sizeLine ∧ Vals vs its.toList
/-- a list that stood ahead -/
def LsV (K : PySem.W.Frag) (H : Hp) (φ : List Addr) (a : Addr) (vs : List V) : Prop := (a ∉ φ ∧ ∃ o, H a = some (.frz o (.lst vs))) ∨ KSeq K a vs
theorem LsV.sql {K : PySem.W.Frag} {H : Hp} {φ : List Addr} {a : Addr} {vs : List V} (h : LsV K H φ a vs) : SqL K H a vs := h.elim (fun z => .inl (.inr z.2)) .inr
mutual
inductive RV (K : PySem.W.Frag) (G : Ga) (H : Hp) (φ : List Addr) : D → V → Prop
  | non : RV K G H φ .non .non
  | bl {b : Bool} : RV K G H φ (.bl b) (.bl b)
  | int {i : Int} : RV K G H φ (.int i) (.int i)
  | str {x : Str} : RV K G H φ (.str x) (.str x)
  | tup {xs : List D} {vs : List V} {a : Addr} : SqT K H a vs → RVs K G H φ xs vs → RV K G H φ (.tup xs) (.ref a)
  | vl {xs : List D} {vs : List V} {a : Addr} : a ∉ φ → H a = some (.lst vs) → RVs K G H φ xs vs → pureAll xs = true → RV K G H φ (.vl xs) (.ref a)
  | cl {xs : List D} {vs : List V} {a : Addr} : LsV K H φ a vs → RVs K G H φ xs vs → pureAll xs = true → RV K G H φ (.cl xs) (.ref a)
  | vd {ks : List Key} {xs : List D} {kvs : List (Key × V)} {a : Addr} : a ∉ φ → H a = some (.dK kvs) → kvs.map (·.1) = ks → RVs K G H φ xs (kvs.map (·.2)) → pureAll xs = true → RV K G H φ (.vd ks xs) (.ref a)
  | vo {c : Cl} {fs : List Fl} {xs : List D} {vs : List (Str × V)} {a dx : Addr} : a ∉ φ → H a = some (.ins (G.cl c) dx vs) → G.has c = true → vs.map (·.1) = fs.map Fl.nm → RVs K G H φ xs (vs.map (·.2)) → fs.all (okF c) = true → pureAll xs = true →
      RV K G H φ (.vo c fs xs) (.ref a)
  | loc {l : Nat} {a : Addr} : φ[l]? = some a → RV K G H φ (.loc l) (.ref a)
inductive RVs (K : PySem.W.Frag) (G : Ga) (H : Hp) (φ : List Addr) : List D → List V → Prop
  | nil : RVs K G H φ [] []
  | cons {d : D} {v : V} {ds : List D} {vs : List V} : RV K G H φ d v → RVs K G H φ ds vs → RVs K G H φ (d :: ds) (v :: vs)
end
/-- tuples and known things stay -/
structure TK (H H' : Hp) : Prop where
  tup : ∀ a xs, H a = some (.tup xs) → H' a = some (.tup xs)
  frz : ∀ a o u, H a = some (.frz o u) → H' a = some (.frz o u)
theorem TK.refl {H : Hp} : TK H H := ⟨fun _ _ h => h, fun _ _ _ h => h⟩
theorem TK.trans {H H1 H2 : Hp} (a : TK H H1) (b : TK H1 H2) : TK H H2 := ⟨fun c xs h => b.tup c xs (a.tup c xs h), fun c o u h => b.frz c o u (a.frz c o u h)⟩
theorem TK.new {H : Hp} {p : Addr} {o : HO} (h : H p = none) : TK H (upd H p o) :=
  ⟨fun a xs q => by rw [upd_ne (ne_of_none q h)]; exact q, fun a ob u q => by rw [upd_ne (ne_of_none q h)]; exact q⟩
theorem TK.at {H : Hp} {p : Addr} {o u : HO} (h : H p = some u) (h1 : ∀ xs, u ≠ .tup xs) (h2 : ∀ ob w, u ≠ .frz ob w) : TK H (upd H p o) :=
  ⟨fun a xs q => by rw [upd_ne (ne_of q h fun z => h1 _ z.symm)]; exact q, fun a ob w q => by rw [upd_ne (ne_of q h fun z => h2 _ _ z.symm)]; exact q⟩
theorem TK.sqt {K : PySem.W.Frag} {H H' : Hp} {a : Addr} {vs : List V} (t : TK H H') (h : SqT K H a vs) : SqT K H' a vs := by
  rcases h with (h | ⟨o, h⟩) | h
  · exact .inl (.inl (t.tup _ _ h))
  · exact .inl (.inr ⟨o, t.frz _ _ _ h⟩)
  · exact .inr h
theorem pre_get {φ φ' : List Addr} (h : φ <+: φ') {l : Nat} {a : Addr} (e : φ[l]? = some a) : φ'[l]? = some a := by
  obtain ⟨t, rfl⟩ := h
  have hl := (List.getElem?_eq_some_iff.mp e).1
  rw [List.getElem?_append_left hl]
  exact e
/-- the heap goes on: only what is tracked changes -/
structure Ext (φ : List Addr) (H : Hp) (φ' : List Addr) (H' : Hp) : Prop where
  pre : φ <+: φ'
  tk : TK H H'
  out : ∀ a u, a ∉ φ → H a = some u → H' a = some u
  frs : ∀ a, a ∈ φ' → a ∉ φ → H a = none
theorem Ext.notin {φ φ' : List Addr} {H H' : Hp} (x : Ext φ H φ' H') {a : Addr} {u : HO} (n : a ∉ φ) (h : H a = some u) : a ∉ φ' := fun z => by
  have := x.frs a z n
  rw [h] at this
  cases this
theorem Ext.refl {φ : List Addr} {H : Hp} : Ext φ H φ H := ⟨List.prefix_rfl, .refl, fun _ _ _ h => h, fun _ h n => absurd h n⟩
theorem Ext.trans {φ φ1 φ2 : List Addr} {H H1 H2 : Hp} (a : Ext φ H φ1 H1) (b : Ext φ1 H1 φ2 H2) : Ext φ H φ2 H2 := by
  refine ⟨a.pre.trans b.pre, a.tk.trans b.tk, fun c u n h => b.out c u (a.notin n h) (a.out c u n h), fun c z n => ?_⟩
  by_cases h1 : c ∈ φ1
  · exact a.frs c h1 n
  · have e := b.frs c z h1
    cases q : H c with
    | none => rfl
    | some u => rw [a.out c u n q] at e; cases e
theorem Ext.lsv {K : PySem.W.Frag} {φ φ' : List Addr} {H H' : Hp} (x : Ext φ H φ' H') {a : Addr} {vs : List V} (h : LsV K H φ a vs) : LsV K H' φ' a vs := by
  rcases h with ⟨n, o, h⟩ | h
  · exact .inl ⟨x.notin n h, o, x.out _ _ n h⟩
  · exact .inr h
section
variable {K : PySem.W.Frag} {G : Ga} {H H' : Hp} {φ φ' : List Addr}
mutual
theorem RV.ext {d : D} {v : V} (x : Ext φ H φ' H') (h : RV K G H φ d v) : RV K G H' φ' d v := by
  cases h with
  | non => exact .non
  | bl => exact .bl
  | int => exact .int
  | str => exact .str
  | tup q r => exact .tup (x.tk.sqt q) (RVs.ext x r)
  | vl n q r p => exact .vl (x.notin n q) (x.out _ _ n q) (RVs.ext x r) p
  | cl q r p => exact .cl (x.lsv q) (RVs.ext x r) p
  | vd n q e r p => exact .vd (x.notin n q) (x.out _ _ n q) e (RVs.ext x r) p
  | vo n q hh e r o p => exact .vo (x.notin n q) (x.out _ _ n q) hh e (RVs.ext x r) o p
  | loc e => exact .loc (pre_get x.pre e)
theorem RVs.ext {ds : List D} {vs : List V} (x : Ext φ H φ' H') (h : RVs K G H φ ds vs) : RVs K G H' φ' ds vs := by
  cases h with
  | nil => exact .nil
  | cons a b => exact .cons (RV.ext x a) (RVs.ext x b)
end
mutual
/-- fewer are tracked -/
theorem RV.sub {φ2 : List Addr} {d : D} {v : V} (n : Nat) (hs : ∀ b, b ∈ φ2 → b ∈ φ) (hg : ∀ (l : Nat) a, l < n → φ[l]? = some a → φ2[l]? = some a) (l : d.low n = true) (h : RV K G H φ d v) : RV K G H φ2 d v := by
  cases h with
  | non => exact .non
  | bl => exact .bl
  | int => exact .int
  | str => exact .str
  | tup q r => exact .tup q (RVs.sub n hs hg (by simpa [D.low] using l) r)
  | vl m q r p => exact .vl (fun w => m (hs _ w)) q (RVs.subP hs p r) p
  | cl q r p => exact .cl (q.imp (fun z => ⟨fun w => z.1 (hs _ w), z.2⟩) id) (RVs.subP hs p r) p
  | vd m q e r p => exact .vd (fun w => m (hs _ w)) q e (RVs.subP hs p r) p
  | vo m q hh e r o p => exact .vo (fun w => m (hs _ w)) q hh e (RVs.subP hs p r) o p
  | loc e => exact .loc (hg _ _ (by simpa [D.low] using l) e)
theorem RVs.sub {φ2 : List Addr} {ds : List D} {vs : List V} (n : Nat) (hs : ∀ b, b ∈ φ2 → b ∈ φ) (hg : ∀ (l : Nat) a, l < n → φ[l]? = some a → φ2[l]? = some a) (l : lowAll n ds = true) (h : RVs K G H φ ds vs) : RVs K G H φ2 ds vs := by
  cases h with
  | nil => exact .nil
  | cons a b =>
    simp only [lowAll, Bool.and_eq_true] at l
    exact .cons (RV.sub n hs hg l.1 a) (RVs.sub n hs hg l.2 b)
theorem RV.subP {φ2 : List Addr} {d : D} {v : V} (hs : ∀ b, b ∈ φ2 → b ∈ φ) (l : d.pureB = true) (h : RV K G H φ d v) : RV K G H φ2 d v := by
  cases h with
  | non => exact .non
  | bl => exact .bl
  | int => exact .int
  | str => exact .str
  | tup q r => exact .tup q (RVs.subP hs (by simpa [D.pureB] using l) r)
  | vl m q r p => exact .vl (fun w => m (hs _ w)) q (RVs.subP hs p r) p
  | cl q r p => exact .cl (q.imp (fun z => ⟨fun w => z.1 (hs _ w), z.2⟩) id) (RVs.subP hs p r) p
  | vd m q e r p => exact .vd (fun w => m (hs _ w)) q e (RVs.subP hs p r) p
  | vo m q hh e r o p => exact .vo (fun w => m (hs _ w)) q hh e (RVs.subP hs p r) o p
  | loc e => simp [D.pureB] at l
theorem RVs.subP {φ2 : List Addr} {ds : List D} {vs : List V} (hs : ∀ b, b ∈ φ2 → b ∈ φ) (l : pureAll ds = true) (h : RVs K G H φ ds vs) : RVs K G H φ2 ds vs := by
  cases h with
  | nil => exact .nil
  | cons a b =>
    simp only [pureAll, Bool.and_eq_true] at l
    exact .cons (RV.subP hs l.1 a) (RVs.subP hs l.2 b)
end
theorem take_sub {n : Nat} : ∀ b, b ∈ φ.take n → b ∈ φ := fun _ h => List.mem_of_mem_take h
theorem take_get {n : Nat} : ∀ (l : Nat) a, l < n → φ[l]? = some a → (φ.take n)[l]? = some a := fun l a hl e => by rw [List.getElem?_take, if_pos hl]; exact e
theorem RV.less {d : D} {v : V} (n : Nat) (l : d.low n = true) (h : RV K G H φ d v) : RV K G H (φ.take n) d v := h.sub n take_sub take_get l
theorem RVs.less {ds : List D} {vs : List V} (n : Nat) (l : lowAll n ds = true) (h : RVs K G H φ ds vs) : RVs K G H (φ.take n) ds vs := h.sub n take_sub take_get l
theorem RV.pure {d : D} {v : V} (n : Nat) (l : d.pureB = true) (h : RV K G H φ d v) : RV K G H (φ.take n) d v := h.subP take_sub l
theorem RVs.pure {ds : List D} {vs : List V} (n : Nat) (l : pureAll ds = true) (h : RVs K G H φ ds vs) : RVs K G H (φ.take n) ds vs := h.subP take_sub l
theorem RVs.length : ∀ {ds : List D} {vs : List V}, RVs K G H φ ds vs → ds.length = vs.length
  | _, _, .nil => rfl
  | _, _, .cons _ b => by rw [List.length_cons, List.length_cons, RVs.length b]
theorem RVs.get : ∀ {ds : List D} {vs : List V} {i : Nat} {d : D}, RVs K G H φ ds vs → ds[i]? = some d → ∃ v, vs[i]? = some v ∧ RV K G H φ d v
  | _, _, _, _, .nil, e => by simp at e
  | _, _, 0, _, .cons a _, e => by simp at e; subst e; exact ⟨_, rfl, a⟩
  | _, _, i + 1, d, .cons _ b, e => by
    obtain ⟨v, h1, h2⟩ := RVs.get (i := i) (d := d) b (by simpa using e)
    exact ⟨v, by simpa using h1, h2⟩
theorem RVs.set {d : D} {v : V} (r : RV K G H φ d v) : ∀ {ds : List D} {vs : List V} (i : Nat), RVs K G H φ ds vs → RVs K G H φ (ds.set i d) (vs.set i v)
  | _, _, _, .nil => .nil
  | _, _, 0, .cons _ b => .cons r b
  | _, _, i + 1, .cons a b => .cons a (RVs.set r i b)
theorem RVs.append : ∀ {ds es : List D} {vs us : List V}, RVs K G H φ ds vs → RVs K G H φ es us → RVs K G H φ (ds ++ es) (vs ++ us)
  | _, _, _, _, .nil, s => s
  | _, _, _, _, .cons a b, s => .cons a (RVs.append b s)
theorem RVs.take : ∀ {ds : List D} {vs : List V} (n : Nat), RVs K G H φ ds vs → RVs K G H φ (ds.take n) (vs.take n)
  | _, _, 0, _ => .nil
  | _, _, _ + 1, .nil => .nil
  | _, _, n + 1, .cons a b => .cons a (RVs.take n b)
theorem RVs.drop : ∀ {ds : List D} {vs : List V} (n : Nat), RVs K G H φ ds vs → RVs K G H φ (ds.drop n) (vs.drop n)
  | _, _, 0, r => r
  | _, _, _ + 1, .nil => .nil
  | _, _, n + 1, .cons _ b => RVs.drop n b
theorem RVs.ints : ∀ {ns : List Int}, RVs K G H φ (ns.map D.int) (ns.map V.int)
  | [] => .nil
  | _ :: _ => .cons .int RVs.ints
end
/-! purity -/
theorem pureAll_append : ∀ {xs ys : List D}, pureAll (xs ++ ys) = (pureAll xs && pureAll ys)
  | [], ys => by simp [pureAll]
  | x :: xs, ys => by simp only [List.cons_append, pureAll, pureAll_append, Bool.and_assoc]
theorem pureAll_mem : ∀ {xs : List D}, pureAll xs = true ↔ ∀ x ∈ xs, x.pureB = true
  | [] => by simp [pureAll]
  | x :: xs => by simp only [pureAll, Bool.and_eq_true, pureAll_mem (xs := xs), List.forall_mem_cons]
theorem pureAll_ints {ns : List Int} : pureAll (ns.map D.int) = true := pureAll_mem.mpr fun x h => by
  obtain ⟨i, _, rfl⟩ := List.mem_map.mp h
  rfl
mutual
theorem pure_low {n : Nat} : ∀ {d : D}, d.pureB = true → d.low n = true
  | .non, _ | .bl _, _ | .int _, _ | .str _, _ | .vl _, _ | .cl _, _ | .vd _ _, _ | .vo _ _ _, _ => rfl
  | .tup xs, h => by simp only [D.pureB] at h; simp only [D.low]; exact pureAll_low h
  | .loc _, h => by simp [D.pureB] at h
theorem pureAll_low {n : Nat} : ∀ {ds : List D}, pureAll ds = true → lowAll n ds = true
  | [], _ => rfl
  | d :: ds, h => by
    simp only [pureAll, Bool.and_eq_true] at h
    simp only [lowAll, pure_low h.1, pureAll_low h.2, Bool.and_self]
end
theorem lowAll_mem {n : Nat} : ∀ {xs : List D}, lowAll n xs = true ↔ ∀ x ∈ xs, x.low n = true
  | [] => by simp [lowAll]
  | x :: xs => by simp only [lowAll, Bool.and_eq_true, lowAll_mem (xs := xs), List.forall_mem_cons]
/-- pairs of a dict, of an instance -/
inductive RKs (K : PySem.W.Frag) (G : Ga) (H : Hp) (φ : List Addr) {κ κ' : Type} (f : κ → κ') : List (κ × D) → List (κ' × V) → Prop
  | nil : RKs K G H φ f [] []
  | cons {k : κ} {d : D} {v : V} {ds : List (κ × D)} {vs : List (κ' × V)} : RV K G H φ d v → RKs K G H φ f ds vs → RKs K G H φ f ((k, d) :: ds) ((f k, v) :: vs)
theorem RKs.ext {K : PySem.W.Frag} {G : Ga} {H H' : Hp} {φ φ' : List Addr} {κ κ' : Type} {f : κ → κ'} {ds : List (κ × D)} {vs : List (κ' × V)} (x : Ext φ H φ' H') (h : RKs K G H φ f ds vs) : RKs K G H' φ' f ds vs := by
  induction h with
  | nil => exact .nil
  | cons a _ ih => exact .cons (a.ext x) ih
theorem RKs.length {K : PySem.W.Frag} {G : Ga} {H : Hp} {φ : List Addr} {κ κ' : Type} {f : κ → κ'} {ds : List (κ × D)} {vs : List (κ' × V)} (h : RKs K G H φ f ds vs) : ds.length = vs.length := by
  induction h with
  | nil => rfl
  | cons _ _ ih => rw [List.length_cons, List.length_cons, ih]
theorem RKs.sub {K : PySem.W.Frag} {G : Ga} {H : Hp} {φ φ2 : List Addr} {κ κ' : Type} {f : κ → κ'} {ds : List (κ × D)} {vs : List (κ' × V)} (n : Nat) (hs : ∀ b, b ∈ φ2 → b ∈ φ) (hg : ∀ (l : Nat) a, l < n → φ[l]? = some a → φ2[l]? = some a) (l : lowAll n (ds.map (·.2)) = true) (h : RKs K G H φ f ds vs) : RKs K G H φ2 f ds vs := by
  induction h with
  | nil => exact .nil
  | cons a _ ih =>
    simp only [List.map_cons, lowAll, Bool.and_eq_true] at l
    exact .cons (a.sub n hs hg l.1) (ih l.2)
theorem RKs.keys {K : PySem.W.Frag} {G : Ga} {H : Hp} {φ : List Addr} {κ κ' : Type} {f : κ → κ'} {ds : List (κ × D)} {vs : List (κ' × V)} (h : RKs K G H φ f ds vs) : vs.map (·.1) = ds.map (fun x => f x.1) := by
  induction h with
  | nil => rfl
  | cons _ _ ih => simp only [List.map_cons, ih]
theorem RKs.vals {K : PySem.W.Frag} {G : Ga} {H : Hp} {φ : List Addr} {κ κ' : Type} {f : κ → κ'} {ds : List (κ × D)} {vs : List (κ' × V)} (h : RKs K G H φ f ds vs) : RVs K G H φ (ds.map (·.2)) (vs.map (·.2)) := by
  induction h with
  | nil => exact .nil
  | cons a _ ih => exact .cons a ih
/-- a value object's, a value dict's pairs -/
theorem RKs.zip {K : PySem.W.Frag} {G : Ga} {H : Hp} {φ : List Addr} {κ κ' : Type} {f : κ → κ'} : ∀ {ks : List κ} {ds : List D} {vs : List (κ' × V)}, vs.map (·.1) = ks.map f → RVs K G H φ ds (vs.map (·.2)) → RKs K G H φ f (ks.zip ds) vs
  | [], ds, [], _, r => by cases ds <;> exact .nil
  | [], _, _ :: _, e, _ => by simp at e
  | _ :: _, _, [], e, _ => by simp at e
  | k :: ks, [], (q, v) :: vs, _, r => by cases r
  | k :: ks, d :: ds, (q, v) :: vs, e, r => by
    simp only [List.map_cons, List.cons.injEq] at e
    obtain ⟨rfl, e⟩ := e
    cases r with
    | cons a b => exact .cons a (RKs.zip e b)
inductive RO (K : PySem.W.Frag) (G : Ga) (H : Hp) (φ : List Addr) : O → Addr → Prop
  | lst {xs : List D} {vs : List V} {a : Addr} : H a = some (.lst vs) → RVs K G H φ xs vs → RO K G H φ (.lst xs) a
  | dct {kvs : List (Key × D)} {vs : List (Key × V)} {a : Addr} : H a = some (.dK vs) → RKs K G H φ id kvs vs → RO K G H φ (.dct false kvs) a
  | dctF {kvs : List (Key × D)} {vs : List (Key × V)} {a : Addr} {o : Obj} : H a = some (.frz o (.dK vs)) → RKs K G H φ id kvs vs → RO K G H φ (.dct true kvs) a
  | ins {c : Cl} {fs : List (Fl × D)} {vs : List (Str × V)} {a dx : Addr} : H a = some (.ins (G.cl c) dx vs) → RKs K G H φ Fl.nm fs vs → G.has c = true → fs.all (fun f => okF c f.1) = true → RO K G H φ (.ins c fs) a
structure Emb (K : PySem.W.Frag) (G : Ga) (φ : List Addr) (S : Sto) (H : Hp) : Prop where
  len : φ.length = S.length
  nd : ∀ (l l' : Nat) a, φ[l]? = some a → φ[l']? = some a → l = l'
  ob : ∀ (l : Nat) o a, S[l]? = some o → φ[l]? = some a → RO K G H φ o a
/-- slots -/
structure RS (K : PySem.W.Frag) (G : Ga) (φ : List Addr) (ρ : Rho) (σ : St) (H : Hp) : Prop where
  len : ρ.length = σ.length
  at_ : ∀ (i : Nat) d, ρ[i]? = some (some d) → ∃ v, σ[i]? = some (some v) ∧ RV K G H φ d v
theorem RS.ext {K : PySem.W.Frag} {G : Ga} {φ φ' : List Addr} {ρ : Rho} {σ : St} {H H' : Hp} (x : Ext φ H φ' H') (h : RS K G φ ρ σ H) : RS K G φ' ρ σ H' :=
  ⟨h.len, fun i d e => let ⟨v, a, b⟩ := h.at_ i d e; ⟨v, a, b.ext x⟩⟩
theorem RS.set {K : PySem.W.Frag} {G : Ga} {φ : List Addr} {ρ : Rho} {σ : St} {H : Hp} {d : D} {v : V} (h : RS K G φ ρ σ H) (i : Nat) (r : RV K G H φ d v) : RS K G φ (ρ.set i (some d)) (σ.set i (some v)) H := by
  refine ⟨by simp [h.len], fun j e q => ?_⟩
  by_cases hj : i = j
  · subst hj
    have hl : i < ρ.length := by
      have := (List.getElem?_eq_some_iff.mp q).1
      simpa using this
    rw [List.getElem?_set_self hl] at q
    cases q
    exact ⟨v, List.getElem?_set_self (by rw [← h.len]; exact hl), r⟩
  · rw [List.getElem?_set_ne hj] at q
    rw [List.getElem?_set_ne hj]
    exact h.at_ j e q
/-! ### the wishes -/
def XW (K : PySem.W.Frag) (G : Ga) (W : WX) (e : Ex) (φ : List Addr) (σ : St) (H : Hp) : Prop :=
  match e.v with
  | none => W (.ref (G.xc e.c)) none σ H
  | some x => ∀ d v, H d = some (.xd [(("row" : Str), v)]) → RV K G H φ x v → W (.ref (G.xc e.c)) (some d) σ H
def outR {α β : Type} (K : PySem.W.Frag) (G : Ga) (W : WX) (R : Hp → List Addr → α → β → Prop) (r : Res α) (φ : List Addr) (σ : St) (H : Hp) (Q : β → Hp → Prop) : Prop :=
  match r with
  | .ok a S' => ∀ φ' b H', Ext φ H φ' H' → Emb K G φ' S' H' → R H' φ' a b → Q b H'
  | .exc e S' => ∀ φ' H', Ext φ H φ' H' → Emb K G φ' S' H' → XW K G W e φ' σ H'
  | .stuck => False
def outS (K : PySem.W.Frag) (G : Ga) (W : WX) (r : SR) (φ : List Addr) (H : Hp) (D : Ends) : Prop :=
  match r with
  | .nx ρ' S' => ∀ φ' σ' H', Ext φ H φ' H' → Emb K G φ' S' H' → RS K G φ' ρ' σ' H' → D.nx σ' H'
  | .rt d S' => ∀ φ' v H', Ext φ H φ' H' → Emb K G φ' S' H' → RV K G H' φ' d v → D.rt v H'
  | .bk ρ' S' => ∀ φ' σ' H', Ext φ H φ' H' → Emb K G φ' S' H' → RS K G φ' ρ' σ' H' → D.bk σ' H'
  | .ct ρ' S' => ∀ φ' σ' H', Ext φ H φ' H' → Emb K G φ' S' H' → RS K G φ' ρ' σ' H' → D.ct σ' H'
  | .xc e ρ' S' => ∀ φ' σ' H', Ext φ H φ' H' → Emb K G φ' S' H' → RS K G φ' ρ' σ' H' → XW K G W e φ' σ' H'
  | .stuck => False
def rE (K : PySem.W.Frag) (G : Ga) : Hp → List Addr → D → V → Prop := fun H φ d v => RV K G H φ d v
def rT : Hp → List Addr → Bool → Bool → Prop := fun _ _ a b => a = b
def rA (K : PySem.W.Frag) (G : Ga) : Hp → List Addr → List D → List V → Prop := fun H φ d v => RVs K G H φ d v
def wp {α β : Type} (K : PySem.W.Frag) (G : Ga) (W : WX) (R : Hp → List Addr → α → β → Prop) (m : Rho → Sto → Res α) : St → Hp → (β → Hp → Prop) → Prop :=
  fun σ H Q => ∃ φ ρ S, Emb K G φ S H ∧ RS K G φ ρ σ H ∧ outR K G W R (m ρ S) φ σ H Q
abbrev wpE (K : PySem.W.Frag) (G : Ga) (W : WX) (m : MEx) : TE := wp K G W (rE K G) m
abbrev wpT (K : PySem.W.Frag) (G : Ga) (W : WX) (m : MTs) : TT := wp K G W rT m
abbrev wpA (K : PySem.W.Frag) (G : Ga) (W : WX) (m : MAr) : TA := wp K G W (rA K G) m
def wpS (K : PySem.W.Frag) (G : Ga) (W : WX) (m : MSt) : TS := fun D σ H => ∃ φ ρ S, Emb K G φ S H ∧ RS K G φ ρ σ H ∧ outS K G W (m ρ S) φ H D
section
variable {K : PySem.W.Frag} {G : Ga} {W : WX} {α β γ δ : Type} {R : Hp → List Addr → α → β → Prop} {R' : Hp → List Addr → γ → δ → Prop}
theorem outR.from {r : Res α} {φ φ1 : List Addr} {σ : St} {H H1 : Hp} {Q : β → Hp → Prop} (x : Ext φ H φ1 H1) (h : outR K G W R r φ σ H Q) : outR K G W R r φ1 σ H1 Q := by
  cases r with
  | ok a S => exact fun φ' b H' x' => h φ' b H' (x.trans x')
  | exc e S => exact fun φ' H' x' => h φ' H' (x.trans x')
  | stuck => exact h
theorem outR.bind {r : Res α} {f : α → Sto → Res γ} {φ : List Addr} {σ : St} {H : Hp} {Q : δ → Hp → Prop} {Q1 : β → Hp → Prop} (h : outR K G W R' (r.bind f) φ σ H Q)
    (k : ∀ a S1 φ1 b H1, Ext φ H φ1 H1 → Emb K G φ1 S1 H1 → R H1 φ1 a b → outR K G W R' (f a S1) φ1 σ H1 Q → Q1 b H1) : outR K G W R r φ σ H Q1 := by
  cases r with
  | ok a S => exact fun φ1 b H1 x em rv => k a S φ1 b H1 x em rv (outR.from x h)
  | exc e S => exact h
  | stuck => exact h
theorem outS.from {r : SR} {φ φ1 : List Addr} {H H1 : Hp} {D : Ends} (x : Ext φ H φ1 H1) (h : outS K G W r φ H D) : outS K G W r φ1 H1 D := by
  cases r with
  | nx ρ S => exact fun φ' b H' x' => h φ' b H' (x.trans x')
  | rt ρ S => exact fun φ' b H' x' => h φ' b H' (x.trans x')
  | bk ρ S => exact fun φ' b H' x' => h φ' b H' (x.trans x')
  | ct ρ S => exact fun φ' b H' x' => h φ' b H' (x.trans x')
  | xc e ρ S => exact fun φ' b H' x' => h φ' b H' (x.trans x')
  | stuck => exact h
theorem outR.st {r : Res α} {f : α → Sto → SR} {φ : List Addr} {ρ : Rho} {σ : St} {H : Hp} {D : Ends} {Q1 : β → Hp → Prop} (rs : RS K G φ ρ σ H) (h : outS K G W (r.st ρ f) φ H D)
    (k : ∀ a S1 φ1 b H1, Ext φ H φ1 H1 → Emb K G φ1 S1 H1 → R H1 φ1 a b → outS K G W (f a S1) φ1 H1 D → Q1 b H1) : outR K G W R r φ σ H Q1 := by
  cases r with
  | ok a S => exact fun φ1 b H1 x em rv => k a S φ1 b H1 x em rv (outS.from x h)
  | exc e S => exact fun φ' H' x em => h φ' σ H' x em (rs.ext x)
  | stuck => exact h
theorem outR.ok {a : α} {S : Sto} {φ : List Addr} {σ : St} {H : Hp} {Q : β → Hp → Prop} {b : β} (h : outR K G W R (.ok a S) φ σ H Q) (em : Emb K G φ S H) (r : R H φ a b) : Q b H := h φ b H .refl em r
end

/-! ### the store's turns -/
theorem RO.keep {K : PySem.W.Frag} {G : Ga} {H H' : Hp} {φ φ' : List Addr} {o : O} {a : Addr} (x : Ext φ H φ' H') (k : ∀ u, H a = some u → H' a = some u) (h : RO K G H φ o a) : RO K G H' φ' o a := by
  cases h with
  | lst e r => exact .lst (k _ e) (r.ext x)
  | dct e r => exact .dct (k _ e) (r.ext x)
  | dctF e r => exact .dctF (k _ e) (r.ext x)
  | ins e r h1 h2 => exact .ins (k _ e) (r.ext x) h1 h2
theorem RO.there {K : PySem.W.Frag} {G : Ga} {H : Hp} {φ : List Addr} {o : O} {a : Addr} (h : RO K G H φ o a) : ∃ u, H a = some u := by
  cases h with
  | lst e r => exact ⟨_, e⟩
  | dct e r => exact ⟨_, e⟩
  | dctF e r => exact ⟨_, e⟩
  | ins e r h1 h2 => exact ⟨_, e⟩
theorem Emb.addr {K : PySem.W.Frag} {G : Ga} {φ : List Addr} {S : Sto} {H : Hp} (em : Emb K G φ S H) {l : Nat} {o : O} (h : S[l]? = some o) : ∃ a, φ[l]? = some a ∧ RO K G H φ o a := by
  have hl : l < φ.length := by rw [em.len]; exact (List.getElem?_eq_some_iff.mp h).1
  exact ⟨φ[l], List.getElem?_eq_getElem hl, em.ob l o _ h (List.getElem?_eq_getElem hl)⟩
theorem Emb.at_loc {K : PySem.W.Frag} {G : Ga} {φ : List Addr} {S : Sto} {H : Hp} (em : Emb K G φ S H) {l : Nat} {o : O} {v : V} (h : S[l]? = some o) (r : RV K G H φ (.loc l) v) : ∃ a, v = .ref a ∧ φ[l]? = some a ∧ RO K G H φ o a := by
  cases r with
  | loc e => exact ⟨_, rfl, e, em.ob l o _ h e⟩
theorem Emb.there {K : PySem.W.Frag} {G : Ga} {φ : List Addr} {S : Sto} {H : Hp} (em : Emb K G φ S H) {a : Addr} (h : a ∈ φ) : ∃ u, H a = some u := by
  obtain ⟨l, hl, e⟩ := List.mem_iff_getElem.mp h
  have hl2 : l < S.length := by rw [← em.len]; exact hl
  exact (em.ob l S[l] a (List.getElem?_eq_getElem hl2) (by rw [List.getElem?_eq_getElem hl, e])).there
/-- the heap changes elsewhere -/
theorem Emb.keep {K : PySem.W.Frag} {G : Ga} {φ : List Addr} {S : Sto} {H H' : Hp} (em : Emb K G φ S H) (x : Ext φ H φ H') (k : ∀ a u, H a = some u → H' a = some u) : Emb K G φ S H' :=
  ⟨em.len, em.nd, fun l o a h e => (em.ob l o a h e).keep x (k a)⟩
theorem Ext.other {φ : List Addr} {H : Hp} {p : Addr} {ho : HO} (hp : H p = none) : Ext φ H φ (upd H p ho) := ⟨List.prefix_rfl, .new hp, fun a u _ e => by rw [upd_ne (ne_of_none e hp)]; exact e, fun _ h n => absurd h n⟩
/-- a tuple is laid -/
theorem Emb.other {K : PySem.W.Frag} {G : Ga} {φ : List Addr} {S : Sto} {H : Hp} {p : Addr} {ho : HO} (em : Emb K G φ S H) (hp : H p = none) : Emb K G φ S (upd H p ho) :=
  em.keep (.other hp) fun a u e => by rw [upd_ne (ne_of_none e hp)]; exact e
theorem Ext.new {φ : List Addr} {H : Hp} {p : Addr} {ho : HO} (hp : H p = none) : Ext φ H (φ ++ [p]) (upd H p ho) :=
  ⟨List.prefix_append _ _, .new hp, fun a u _ e => by rw [upd_ne (ne_of_none e hp)]; exact e, fun a h n => by
    rcases List.mem_append.mp h with z | z
    · exact absurd z n
    · rw [List.mem_singleton.mp z]; exact hp⟩
/-- an object is laid -/
theorem Emb.new {K : PySem.W.Frag} {G : Ga} {φ : List Addr} {S : Sto} {H : Hp} {p : Addr} {o : O} {ho : HO} (em : Emb K G φ S H) (hp : H p = none) (r : RO K G (upd H p ho) (φ ++ [p]) o p) : Emb K G (φ ++ [p]) (S ++ [o]) (upd H p ho) := by
  have hlen := em.len
  have old : ∀ {l a}, (φ ++ [p])[l]? = some a → l < φ.length → φ[l]? = some a := fun {l a} e h => by rw [List.getElem?_append_left h] at e; exact e
  have last : ∀ {l a}, (φ ++ [p])[l]? = some a → ¬ l < φ.length → l = φ.length ∧ a = p := fun {l a} e h => by
    have h1 : l < (φ ++ [p]).length := (List.getElem?_eq_some_iff.mp e).1
    simp at h1
    have h2 : l = φ.length := by omega
    subst h2
    simp at e
    exact ⟨rfl, e.symm⟩
  have sold : ∀ {l}, l < φ.length → (S ++ [o])[l]? = S[l]? := fun {l} h => by rw [List.getElem?_append_left (by omega)]
  have clash : ∀ {l}, φ[l]? = some p → False := fun {l} e => by
    obtain ⟨u, z⟩ := em.there (List.mem_of_getElem? e)
    rw [hp] at z; cases z
  refine ⟨by simp [hlen], fun l l' a e e' => ?_, fun l o' a h e => ?_⟩
  · by_cases h1 : l < φ.length
    · by_cases h2 : l' < φ.length
      · exact em.nd l l' a (old e h1) (old e' h2)
      · obtain ⟨_, rfl⟩ := last e' h2
        exact (clash (old e h1)).elim
    · obtain ⟨h3, rfl⟩ := last e h1
      by_cases h2 : l' < φ.length
      · exact (clash (old e' h2)).elim
      · exact h3.trans (last e' h2).1.symm
  · by_cases h1 : l < φ.length
    · rw [sold h1] at h
      exact (em.ob l o' a h (old e h1)).keep (.new hp) fun u z => by rw [upd_ne (ne_of_none z hp)]; exact z
    · obtain ⟨h3, rfl⟩ := last e h1
      subst h3
      rw [hlen] at h
      simp at h
      subst h
      exact r
theorem Ext.at {φ : List Addr} {H : Hp} {l : Nat} {a : Addr} {u ho : HO} (ha : φ[l]? = some a) (hu : H a = some u) (h1 : ∀ xs, u ≠ .tup xs) (h2 : ∀ ob w, u ≠ .frz ob w) : Ext φ H φ (upd H a ho) :=
  ⟨List.prefix_rfl, TK.at hu h1 h2, fun b w n e => by rw [upd_ne (fun z => n (by rw [z]; exact List.mem_of_getElem? ha))]; exact e, fun _ h n => absurd h n⟩
/-- an object is written -/
theorem Emb.set {K : PySem.W.Frag} {G : Ga} {φ : List Addr} {S : Sto} {H : Hp} {l : Nat} {a : Addr} {o0 o : O} {u ho : HO} (em : Emb K G φ S H) (h0 : S[l]? = some o0) (ha : φ[l]? = some a) (hu : H a = some u) (h1 : ∀ xs, u ≠ .tup xs) (h2 : ∀ ob w, u ≠ .frz ob w)
    (r : RO K G (upd H a ho) φ o a) : Emb K G φ (S.set l o) (upd H a ho) := by
  have hl : l < S.length := (List.getElem?_eq_some_iff.mp h0).1
  have xa : Ext φ H φ (upd H a ho) := .at ha hu h1 h2
  refine ⟨by simp [em.len], em.nd, fun i o' b h e => ?_⟩
  by_cases hi : l = i
  · subst hi
    rw [List.getElem?_set_self hl] at h
    cases h
    rw [ha] at e
    cases e
    exact r
  · rw [List.getElem?_set_ne hi] at h
    refine (em.ob i o' b h e).keep xa fun w z => ?_
    rw [upd_ne (fun q => hi (em.nd l i a ha (by rw [← q]; exact e)))]
    exact z
theorem RO.lstM {K : PySem.W.Frag} {G : Ga} {H : Hp} {φ : List Addr} {xs : List D} {a : Addr} (h : RO K G H φ (O.lst xs) a) : ∃ vs, H a = some (HO.lst vs) ∧ RVs K G H φ xs vs := by
  cases h with
  | lst e r => exact ⟨_, e, r⟩
/-- a list as it may be read -/
theorem RO.sql {K : PySem.W.Frag} {G : Ga} {H : Hp} {φ : List Addr} {xs : List D} {a : Addr} (h : RO K G H φ (.lst xs) a) : ∃ vs, SqL K H a vs ∧ RVs K G H φ xs vs := by
  cases h with
  | lst e r => exact ⟨_, .inl (.inl e), r⟩
/-! ### what is made within is left out, or becomes a value -/
def O.low (n : Nat) : O → Bool
  | .lst xs => lowAll n xs
  | .dct _ kvs => lowAll n (kvs.map (·.2))
  | .ins _ fs => lowAll n (fs.map (·.2))
theorem RO.sub {K : PySem.W.Frag} {G : Ga} {H : Hp} {φ φ2 : List Addr} {o : O} {a : Addr} (n : Nat) (hs : ∀ b, b ∈ φ2 → b ∈ φ) (hg : ∀ (l : Nat) a, l < n → φ[l]? = some a → φ2[l]? = some a) (l : o.low n = true) (h : RO K G H φ o a) : RO K G H φ2 o a := by
  cases h with
  | lst e r => exact .lst e (r.sub n hs hg l)
  | dct e r => exact .dct e (r.sub n hs hg l)
  | dctF e r => exact .dctF e (r.sub n hs hg l)
  | ins e r h1 h2 => exact .ins e (r.sub n hs hg l) h1 h2
/-- the first n of S' know nothing of the others -/
def Cld (S S' : Sto) : Prop := S.length ≤ S'.length ∧ ∀ i, i < S.length → S'[i]? = S[i]? ∨ ∃ o, S'[i]? = some o ∧ o.low S.length = true
mutual
theorem RV.lowB {K : PySem.W.Frag} {G : Ga} {H : Hp} {φ : List Addr} {d : D} {v : V} (h : RV K G H φ d v) : d.low φ.length = true := by
  cases h with
  | tup q r => simp only [D.low]; exact RVs.lowB r
  | loc e => simp only [D.low]; exact decide_eq_true (List.getElem?_eq_some_iff.mp e).1
  | _ => rfl
theorem RVs.lowB {K : PySem.W.Frag} {G : Ga} {H : Hp} {φ : List Addr} {ds : List D} {vs : List V} (h : RVs K G H φ ds vs) : lowAll φ.length ds = true := by
  cases h with
  | nil => rfl
  | cons a b => simp only [lowAll, RV.lowB a, RVs.lowB b, Bool.and_self]
end
theorem RO.lowB {K : PySem.W.Frag} {G : Ga} {H : Hp} {φ : List Addr} {o : O} {a : Addr} (h : RO K G H φ o a) : o.low φ.length = true := by
  cases h with
  | lst e r => exact r.lowB
  | dct e r => exact r.vals.lowB
  | dctF e r => exact r.vals.lowB
  | ins e r h1 h2 => exact r.vals.lowB
theorem Cld.low {K : PySem.W.Frag} {G : Ga} {φ : List Addr} {S S' : Sto} {H : Hp} (em : Emb K G φ S H) (c : Cld S S') {l : Nat} {o : O} (hl : l < S.length) (h : S'[l]? = some o) : o.low S.length = true := by
  rcases c.2 l hl with z | ⟨o', z, w⟩
  · rw [z] at h
    have hl2 : l < φ.length := by rw [em.len]; exact hl
    have := (em.ob l o _ h (List.getElem?_eq_getElem hl2)).lowB
    rw [em.len] at this
    exact this
  · rw [z] at h; cases h; exact w
theorem Emb.cut {K : PySem.W.Frag} {G : Ga} {φ φ' : List Addr} {S S' : Sto} {H H' : Hp} (em : Emb K G φ S H) (x : Ext φ H φ' H') (em' : Emb K G φ' S' H') (c : Cld S S') : Emb K G φ (S'.take S.length) H' ∧ φ'.take S.length = φ ∧ Ext φ H φ H' := by
  have hp : φ'.take S.length = φ := by
    obtain ⟨t, rfl⟩ := x.pre
    rw [← em.len]; simp
  refine ⟨⟨?_, em.nd, fun l o a h e => ?_⟩, hp, ⟨List.prefix_rfl, x.tk, x.out, fun _ h n => absurd h n⟩⟩
  · rw [List.length_take, em.len, Nat.min_eq_left c.1]
  · have hl : l < S.length := by rw [← em.len]; exact (List.getElem?_eq_some_iff.mp e).1
    rw [List.getElem?_take, if_pos hl] at h
    have q := em'.ob l o a h (pre_get x.pre e)
    have := q.sub S.length take_sub take_get (c.low em hl h)
    rw [hp] at this
    exact this
/-- cut, and one of the others kept -/
theorem Emb.cut1 {K : PySem.W.Frag} {G : Ga} {φ φ' : List Addr} {S S' : Sto} {H H' : Hp} (em : Emb K G φ S H) (x : Ext φ H φ' H') (em' : Emb K G φ' S' H') (c : Cld S S') {l : Nat} {a : Addr} {o : O} (hl : S.length ≤ l) (ha : φ'[l]? = some a) (ro : RO K G H' φ' o a) (lo : o.low 0 = true) :
    Emb K G (φ ++ [a]) (S'.take S.length ++ [o]) H' ∧ Ext φ H (φ ++ [a]) H' := by
  have len := em.len
  have hpre : ∀ (i : Nat) b, i < S.length → φ'[i]? = some b → (φ ++ [a])[i]? = some b := fun i b hi e => by
    obtain ⟨t, rfl⟩ := x.pre
    rw [List.getElem?_append_left (by omega)] at e ⊢
    exact e
  have hlt : ∀ {i b}, (φ ++ [a])[i]? = some b → i < φ.length → φ[i]? = some b := fun {i b} e h => by rw [List.getElem?_append_left h] at e; exact e
  have last : ∀ {i b}, (φ ++ [a])[i]? = some b → ¬ i < φ.length → i = φ.length ∧ b = a := fun {i b} e h => by
    have h1 : i < (φ ++ [a]).length := (List.getElem?_eq_some_iff.mp e).1
    simp at h1
    have h2 : i = φ.length := by omega
    subst h2
    simp at e
    exact ⟨rfl, e.symm⟩
  have hsub : ∀ b, b ∈ φ ++ [a] → b ∈ φ' := fun b h => by
    rcases List.mem_append.mp h with z | z
    · exact x.pre.subset z
    · rw [List.mem_singleton.mp z]; exact List.mem_of_getElem? ha
  have nin : ∀ i, φ[i]? = some a → False := fun i e => by
    have h1 := em'.nd i l a (pre_get x.pre e) ha
    have h2 := (List.getElem?_eq_some_iff.mp e).1
    omega
  have tl : (S'.take S.length).length = S.length := by rw [List.length_take, Nat.min_eq_left c.1]
  refine ⟨⟨by simp [len, c.1], fun i j b e e' => ?_, fun i o' b h e => ?_⟩, ⟨List.prefix_append _ _, x.tk, x.out, fun b h n => x.frs b (hsub b h) n⟩⟩
  · by_cases h1 : i < φ.length
    · by_cases h2 : j < φ.length
      · exact em.nd i j b (hlt e h1) (hlt e' h2)
      · obtain ⟨_, rfl⟩ := last e' h2
        exact (nin i (hlt e h1)).elim
    · obtain ⟨h3, rfl⟩ := last e h1
      by_cases h2 : j < φ.length
      · exact (nin j (hlt e' h2)).elim
      · exact h3.trans (last e' h2).1.symm
  · by_cases h1 : i < φ.length
    · rw [List.getElem?_append_left (by omega), List.getElem?_take, if_pos (by omega)] at h
      exact (em'.ob i o' b h (pre_get x.pre (hlt e h1))).sub S.length hsub (fun l b hl e => hpre l b hl e) (c.low em (by omega) h)
    · obtain ⟨h3, rfl⟩ := last e h1
      subst h3
      rw [len, ← tl] at h
      simp at h
      subst h
      exact ro.sub 0 hsub (fun l b hl _ => absurd hl (Nat.not_lt_zero l)) lo
/-- what is made from n on becomes a value -/
def optAll {α β : Type} (f : α → Option β) : List α → Option (List β)
  | [] => some []
  | x :: xs => match f x, optAll f xs with
    | some y, some ys => some (y :: ys)
    | _, _ => none
def vlO (o : Option (List D)) : Option D := match o with
  | some xs => if pureAll xs = true then some (.vl xs) else none
  | none => none
def vdO (ks : List Key) (o : Option (List D)) : Option D := match o with
  | some xs => if pureAll xs = true then some (.vd ks xs) else none
  | none => none
def voO (c : Cl) (fs : List Fl) (o : Option (List D)) : Option D := match o with
  | some xs => if pureAll xs = true then some (.vo c fs xs) else none
  | none => none
def fzD (S : Sto) (n : Nat) : Nat → D → Option D
  | 0, _ => none
  | k + 1, d => if d.pureB = true then some d else match d with
    | .tup xs => (optAll (fzD S n k) xs).map .tup
    | .loc l => if l < n then some (.loc l) else match S[l]? with
      | some (.lst xs) => vlO (optAll (fzD S n k) xs)
      | some (.dct false kvs) => vdO (kvs.map (·.1)) (optAll (fzD S n k) (kvs.map (·.2)))
      | some (.ins c fs) => voO c (fs.map (·.1)) (optAll (fzD S n k) (fs.map (·.2)))
      | _ => none
    | d => some d
theorem fz_all {K : PySem.W.Frag} {G : Ga} {H : Hp} {φ φ' : List Addr} {f : D → Option D} (ih : ∀ d v e, RV K G H φ d v → f d = some e → RV K G H φ' e v) : ∀ {ds : List D} {vs : List V} {es : List D}, RVs K G H φ ds vs → optAll f ds = some es → RVs K G H φ' es vs
  | _, _, _, .nil, e => by cases e; exact .nil
  | _, _, _, .cons a b, e => by
    unfold optAll at e
    split at e
    · rename_i y ys e1 e2
      cases e
      exact .cons (ih _ _ _ a e1) (fz_all ih b e2)
    · cases e
theorem fz_ok {K : PySem.W.Frag} {G : Ga} {φ : List Addr} {S : Sto} {H : Hp} (em : Emb K G φ S H) (n : Nat) : ∀ (k : Nat) (d : D) (v : V) (e : D), RV K G H φ d v → fzD S n k d = some e → RV K G H (φ.take n) e v := by
  intro k
  induction k with
  | zero => intro d v e r h; cases h
  | succ k ih =>
    intro d v e r h
    unfold fzD at h
    split at h
    · rename_i hp
      cases h
      exact r.pure n hp
    · split at h
      · rename_i xs hp
        obtain ⟨ys, e1, rfl⟩ := Option.map_eq_some_iff.mp h
        cases r with
        | tup q s => exact .tup q (fz_all ih s e1)
      · rename_i l hp
        split at h
        · rename_i hl
          cases h
          exact r.less n (by simp only [D.low]; exact decide_eq_true hl)
        · rename_i hl
          cases r with
          | @loc _ a ea =>
            have nin : a ∉ φ.take n := fun z => by
              obtain ⟨l', hl', e'⟩ := List.mem_iff_getElem.mp z
              have h1 : φ[l']? = some a := by
                rw [List.getElem_take] at e'
                rw [List.length_take] at hl'
                rw [List.getElem?_eq_getElem (by omega), e']
              have := em.nd l l' a ea h1
              rw [List.length_take] at hl'
              omega
            split at h
            · rename_i xs es
              unfold vlO at h
              split at h
              · rename_i ys e1
                split at h
                · rename_i hy
                  cases h
                  cases em.ob l _ a es ea with
                  | lst e2 r2 => exact .vl nin e2 (fz_all ih r2 e1) hy
                · cases h
              · cases h
            · rename_i kvs es
              unfold vdO at h
              split at h
              · rename_i ys e1
                split at h
                · rename_i hy
                  cases h
                  cases em.ob l _ a es ea with
                  | dct e2 r2 => exact .vd nin e2 (by have := r2.keys; simpa using this) (fz_all ih r2.vals e1) hy
                · cases h
              · cases h
            · rename_i c fs es
              unfold voO at h
              split at h
              · rename_i ys e1
                split at h
                · rename_i hy
                  cases h
                  cases em.ob l _ a es ea with
                  | ins e2 r2 h1 h2 => exact .vo nin e2 h1 (by rw [r2.keys, List.map_map]; rfl) (fz_all ih r2.vals e1) (by simpa [List.all_map] using h2) hy
                · cases h
              · cases h
            · cases h
      · cases h
        exact r.less n (by cases d <;> first | rfl | (rename_i h1 h2 h3; exact absurd rfl (h2 _)) | (rename_i h1 h2 h3; exact absurd rfl (h3 _)))
/-- how a def, an expression ends: what it made is left out, its value frozen (kp: a list or dict that is new is kept) -/
def keepO (S' : Sto) (n : Nat) (d : D) : Option O := match d with
  | .loc l => if l < n then none else match S'[l]? with
    | some (.lst xs) => if pureAll xs = true then some (.lst xs) else none
    | some (.dct false kvs) => if pureAll (kvs.map (·.2)) = true then some (.dct false kvs) else none
    | _ => none
  | _ => none
def exO (n : Nat) (S' : Sto) (o : Option D) : Res D := match o with
  | some d => .ok d (S'.take n)
  | none => .stuck
def exK (n : Nat) (S' : Sto) (o : Option O) (d : Option D) : Res D := match o with
  | some o => .ok (.loc n) (S'.take n ++ [o])
  | none => exO n S' d
open Classical in
noncomputable def exitR (kp : Bool) (S : Sto) (r : Res D) : Res D := match r with
  | .ok d S' => if Cld S S' then exK S.length S' (if kp = true then keepO S' S.length d else none) (fzD S' S.length 8 d) else .stuck
  | .exc e S' => if Cld S S' ∧ (∀ x, e.v = some x → x.pureB = true) then .exc e (S'.take S.length) else .stuck
  | .stuck => .stuck
theorem outR.exit {K : PySem.W.Frag} {G : Ga} {W : WX} {kp : Bool} {r : Res D} {φ : List Addr} {S : Sto} {σ : St} {H : Hp} {Q : VK} (em : Emb K G φ S H) (h : outR K G W (rE K G) (exitR kp S r) φ σ H Q) : outR K G W (rE K G) r φ σ H Q := by
  cases r with
  | stuck => exact h
  | exc e S' =>
    intro φ' H' x em'
    unfold exitR at h
    simp only at h
    split at h
    · rename_i c
      obtain ⟨e1, e2, e3⟩ := em.cut x em' c.1
      have q := h φ H' e3 e1
      unfold XW at q ⊢
      cases hv : e.v with
      | none => rw [hv] at q; exact q
      | some y =>
        rw [hv] at q
        intro d v h1 h2
        refine q d v h1 ?_
        have := h2.pure S.length (c.2 y hv)
        rw [e2] at this
        exact this
    · exact h.elim
  | ok d S' =>
    intro φ' v H' x em' rv
    unfold exitR at h
    simp only at h
    split at h
    · rename_i c
      obtain ⟨e1, e2, e3⟩ := em.cut x em' c
      have fin : outR K G W (rE K G) (exO S.length S' (fzD S' S.length 8 d)) φ σ H Q → Q v H' := fun h => by
        unfold exO at h
        split at h
        · rename_i d' ed
          have := fz_ok em' S.length 8 d v d' rv ed
          rw [e2] at this
          exact h φ v H' e3 e1 this
        · exact h.elim
      unfold exK at h
      split at h
      · rename_i o eo
        split at eo
        · unfold keepO at eo
          split at eo
          · rename_i l
            split at eo
            · cases eo
            · rename_i hl
              cases rv with
              | @loc _ a ea =>
                have hf : (φ ++ [a])[S.length]? = some a := by rw [← em.len]; simp
                split at eo
                · rename_i xs es
                  split at eo
                  · rename_i hp
                    cases eo
                    obtain ⟨f1, f2⟩ := em.cut1 x em' c (Nat.le_of_not_lt hl) ea (em'.ob l _ a es ea) (pureAll_low hp)
                    exact h (φ ++ [a]) (.ref a) H' f2 f1 (.loc hf)
                  · cases eo
                · rename_i kvs es
                  split at eo
                  · rename_i hp
                    cases eo
                    obtain ⟨f1, f2⟩ := em.cut1 x em' c (Nat.le_of_not_lt hl) ea (em'.ob l _ a es ea) (pureAll_low hp)
                    exact h (φ ++ [a]) (.ref a) H' f2 f1 (.loc hf)
                  · cases eo
                · cases eo
          · cases eo
        · cases eo
      · exact fin h
    · exact h.elim
end MP

set_option Elab.async false
set_option linter.all false
set_option maxRecDepth 100000
set_option maxHeartbeats 2000000
namespace MP
open PySem L2
/-- a body's context -/
structure DX (X : Cx) (G : Ga) (W : WX) (k : Nat) : Prop where
  calm : X.calm = true
  tk : Takes X W
  pn : PassesOwn (model X.prog X.w) X.A X.env X.xe
  hr : Room k X.A
  nd : X.N.Nodup
/-- the classes -/
structure Gok (K : PySem.W.Frag) (G : Ga) : Prop where
  cls : ∀ c, G.has c = true → Cls K (G.cl c)
  noat : ∀ c f, G.has c = true → okF c f = true → NoAttr K (G.cl c) f.nm
section
variable {X : Cx} {G : Ga} {W : WX} {k : Nat}
theorem pe_conv {e : Expr} {t t' : TE} (h : PE X e t) (hh : ∀ σ H Q, t' σ H Q → t σ H Q) : PE X e t' := ⟨fun pins s σ H Q I ht => h.run pins s σ H Q I (hh _ _ _ ht)⟩
theorem pt_conv {e : Expr} {t t' : TT} (h : PT X e t) (hh : ∀ σ H Q, t' σ H Q → t σ H Q) : PT X e t' := ⟨fun pins s σ H Q I ht => h.run pins s σ H Q I (hh _ _ _ ht)⟩
theorem pw_conv {e : Expr} {t t' : TT} (h : PW X e t) (hh : ∀ σ H Q, t' σ H Q → t σ H Q) : PW X e t' := ⟨fun wh pins s σ H Q I ht => h.run wh pins s σ H Q I (hh _ _ _ ht)⟩
theorem pa_conv {e : List Expr} {t t' : TA} (h : PA X e t) (hh : ∀ σ H Q, t' σ H Q → t σ H Q) : PA X e t' := ⟨fun pos pins s σ H Q I ht => h.run pos pins s σ H Q I (hh _ _ _ ht)⟩
theorem ps_conv {e : Stmt} {t t' : TS} (h : PS X e t) (hh : ∀ D σ H, t' D σ H → t D σ H) : PS X e t' := ⟨fun pins s σ H D I ht => h.run pins s σ H D I (hh _ _ _ ht)⟩
theorem pss_conv {e : List Stmt} {t t' : TS} (h : PSs X e t) (hh : ∀ D σ H, t' D σ H → t D σ H) : PSs X e t' := ⟨fun pins s σ H D I ht => h.run pins s σ H D I (hh _ _ _ ht)⟩
theorem pg_conv {e : Expr} {t t' : TG} (h : PG X e t) (hh : ∀ v σ H Q, t' v σ H Q → t v σ H Q) : PG X e t' := ⟨fun pins s σ H v u Q I r ht => h.run pins s σ H v u Q I r (hh _ _ _ _ ht)⟩
theorem pi_conv {tg e : Expr} {t t' : TI} (h : PI X tg e t) (hh : ∀ σ H Q, t' σ H Q → t σ H Q) : PI X tg e t' := ⟨fun pins s σ H Q I ht => h.run pins s σ H Q I (hh _ _ _ ht)⟩
theorem pe_or2 {e : Expr} {t t' : TE} (h : PE X e t) (h' : PE X e t') : PE X e (fun σ H Q => t σ H Q ∨ t' σ H Q) := ⟨fun pins s σ H Q I ht => ht.elim (h.run pins s σ H Q I) (h'.run pins s σ H Q I)⟩
theorem ps_or2 {e : Stmt} {t t' : TS} (h : PS X e t) (h' : PS X e t') : PS X e (fun D σ H => t D σ H ∨ t' D σ H) := ⟨fun pins s σ H Q I ht => ht.elim (h.run pins s σ H Q I) (h'.run pins s σ H Q I)⟩
theorem pi_or2 {tg e : Expr} {t t' : TI} (h : PI X tg e t) (h' : PI X tg e t') : PI X tg e (fun σ H Q => t σ H Q ∨ t' σ H Q) := ⟨fun pins s σ H Q I ht => ht.elim (h.run pins s σ H Q I) (h'.run pins s σ H Q I)⟩
theorem pg_or2 {e : Expr} {t t' : TG} (h : PG X e t) (h' : PG X e t') : PG X e (fun v σ H Q => t v σ H Q ∨ t' v σ H Q) := ⟨fun pins s σ H v u Q I r ht => ht.elim (h.run pins s σ H v u Q I r) (h'.run pins s σ H v u Q I r)⟩

/-! ### two ways: the first that is not stuck -/
def mAlt (a b : MEx) : MEx := fun ρ S => match a ρ S with
  | .stuck => b ρ S
  | r => r
theorem d_alt {e : Expr} {a b : MEx} (ha : PE X e (wpE X.K G W a)) (hb : PE X e (wpE X.K G W b)) : PE X e (wpE X.K G W (mAlt a b)) := by
  refine pe_conv (pe_or2 ha hb) ?_
  rintro σ H Q ⟨φ, ρ, S, em, rs, h⟩
  unfold mAlt at h
  cases q : a ρ S with
  | ok d S' => rw [q] at h; exact .inl ⟨φ, ρ, S, em, rs, by rw [q]; exact h⟩
  | exc d S' => rw [q] at h; exact .inl ⟨φ, ρ, S, em, rs, by rw [q]; exact h⟩
  | stuck => rw [q] at h; exact .inr ⟨φ, ρ, S, em, rs, h⟩
def sAlt (a b : MSt) : MSt := fun ρ S => match a ρ S with
  | .stuck => b ρ S
  | r => r
theorem s_alt {e : Stmt} {a b : MSt} (ha : PS X e (wpS X.K G W a)) (hb : PS X e (wpS X.K G W b)) : PS X e (wpS X.K G W (sAlt a b)) := by
  refine ps_conv (ps_or2 ha hb) ?_
  rintro D σ H ⟨φ, ρ, S, em, rs, h⟩
  by_cases q : a ρ S = .stuck
  · have : sAlt a b ρ S = b ρ S := by unfold sAlt; rw [q]
    rw [this] at h
    exact .inr ⟨φ, ρ, S, em, rs, h⟩
  · have : sAlt a b ρ S = a ρ S := by unfold sAlt; cases z : a ρ S <;> first | rfl | exact absurd z q
    rw [this] at h
    exact .inl ⟨φ, ρ, S, em, rs, h⟩

/-! ### names and constants -/
def mVar (i : Nat) : MEx := fun ρ S => match ρ[i]? with
  | some (some d) => .ok d S
  | _ => .stuck
theorem d_var (i : Nat) {x : Str} {pos : Pos} (hN : X.N[i]? = some x := by rfl) (hv : Vis X.env.scope x := by first | exact Or.inl rfl | exact Or.inr (Or.inl rfl) | exact Or.inr (Or.inr rfl)) (hd : (x == ("__debug__" : Str)) = false := by decide)
    (hcd : (x == ("__classdict__" : Str)) = false := by decide) : PE X (.Name x pos) (wpE X.K G W (mVar i)) := by
  refine pe_conv (pe_var hN hv hd hcd) ?_
  rintro σ H Q ⟨φ, ρ, S, em, rs, h⟩
  unfold mVar at h
  split at h
  · rename_i d e
    obtain ⟨v, e1, r⟩ := rs.at_ i d e
    exact ⟨v, e1, outR.ok h em r⟩
  · exact h.elim
def mC (d : D) : MEx := fun _ S => .ok d S
theorem d_const {e : Expr} {v : V} {d : D} (h : PE X e (tC v)) (r : ∀ H φ, RV X.K G H φ d v) : PE X e (wpE X.K G W (mC d)) := by
  refine pe_conv h ?_
  rintro σ H Q ⟨φ, ρ, S, em, rs, h⟩
  exact outR.ok (R := rE X.K G) h em (r H φ)
theorem d_int {i : Int} {j : Nat} {pos : Pos} : PE X (.Constant (.int i) j pos) (wpE X.K G W (mC (.int i))) := d_const pe_int fun _ _ => .int
theorem d_bl {b : Bool} {j : Nat} {pos : Pos} : PE X (.Constant (.bool b) j pos) (wpE X.K G W (mC (.bl b))) := d_const pe_bl fun _ _ => .bl
theorem d_non {j : Nat} {pos : Pos} : PE X (.Constant .none j pos) (wpE X.K G W (mC .non)) := d_const pe_non fun _ _ => .non
theorem d_str {x : Str} {j : Nat} {pos : Pos} : PE X (.Constant (.str x) j pos) (wpE X.K G W (mC (.str x))) := d_const pe_str fun _ _ => .str
/-- a constant of the module -/
structure GlC (K : PySem.W.Frag) (G : Ga) (mg : Str → Option Value) (x : Str) (d : D) : Prop where
  ex : ∃ u v, mg x = some u ∧ RelV v u ∧ ∀ H φ, RV K G H φ d v
theorem d_glob {x : Str} {d : D} {pos : Pos} (g : GlC X.K G X.mg x d) (hg : Gl X x := by rfl) (hd : (x == ("__debug__" : Str)) = false := by decide) : PE X (.Name x pos) (wpE X.K G W (mC d)) := by
  obtain ⟨u, v, hm, r, q⟩ := g.ex
  exact d_const (pe_glob hg hm r hd) q

/-! ### operators -/
def mOp2 (f : D → D → Sto → Res D) (a b : MEx) : MEx := fun ρ S => (a ρ S).bind fun x S1 => (b ρ S1).bind fun y S2 => f x y S2
def OpS (K : PySem.W.Frag) (G : Ga) (W : WX) (f : D → D → Sto → Res D) (r : R2) : Prop :=
  ∀ φ S σ H d1 d2 v1 v2 Q, Emb K G φ S H → RV K G H φ d1 v1 → RV K G H φ d2 v2 → outR K G W (rE K G) (f d1 d2 S) φ σ H Q → r v1 v2 H Q
theorem op2 {K : PySem.W.Frag} {f : D → D → Sto → Res D} {r : R2} {a b : MEx} (hs : OpS K G W f r) (σ : St) (H : Hp) (Q : VK) (h : wpE K G W (mOp2 f a b) σ H Q) : tOp r (wpE K G W a) (wpE K G W b) σ H Q := by
  obtain ⟨φ, ρ, S, em, rs, h⟩ := h
  refine ⟨φ, ρ, S, em, rs, h.bind fun d1 S1 φ1 v1 H1 x1 em1 rv1 h1 => ?_⟩
  refine ⟨φ1, ρ, S1, em1, rs.ext x1, h1.bind fun d2 S2 φ2 v2 H2 x2 em2 rv2 h2 => ?_⟩
  exact hs φ2 S2 σ H2 d1 d2 v1 v2 Q em2 (RV.ext x2 rv1) rv2 h2
section
variable {a b : Expr} {ma mb : MEx} {pos : Pos} {f : D → D → Sto → Res D} {r : R2}
theorem d_bin {op : Operator} (ho : OpR X (binaryOp op) r) (hs : OpS X.K G W f r) (ha : PE X a (wpE X.K G W ma)) (hb : PE X b (wpE X.K G W mb)) : PE X (.BinOp a op b pos) (wpE X.K G W (mOp2 f ma mb)) :=
  pe_conv (pe_op ho ha hb) (op2 hs)
theorem d_cmp {op : CmpOp} (ho : OpR X (compareOp op) r) (hs : OpS X.K G W f r) (ha : PE X a (wpE X.K G W ma)) (hb : PE X b (wpE X.K G W mb)) (hm : behindInMarks op b = false) : PE X (.Compare a [op] [b] pos) (wpE X.K G W (mOp2 f ma mb)) :=
  pe_conv (pe_cmpR ho ha hb hm) (op2 hs)
end
/-- a value that is a truth -/
def asB (d : D) (S : Sto) : Res Bool := match d with
  | .bl b => .ok b S
  | _ => .stuck
def mTest (m : MEx) : MTs := fun ρ S => (m ρ S).bind asB
theorem test {K : PySem.W.Frag} {m : MEx} {t : TE} (hh : ∀ σ H Q, wpE K G W m σ H Q → t σ H Q) (σ : St) (H : Hp) (Q : Bool → Hp → Prop) (h : wpT K G W (mTest m) σ H Q) : t σ H fun x H' => ∃ c, x = .bl c ∧ Q c H' := by
  obtain ⟨φ, ρ, S, em, rs, h⟩ := h
  refine hh _ _ _ ⟨φ, ρ, S, em, rs, h.bind fun d S1 φ1 v H1 x em1 rv h1 => ?_⟩
  cases rv with
  | @bl b => exact ⟨b, rfl, outR.ok (R := rT) h1 em1 rfl⟩
  | _ => exact h1.elim
section
variable {a b : Expr} {ma mb : MEx} {pos : Pos} {f : D → D → Sto → Res D} {r : R2}
theorem t_cmp {op : CmpOp} (ho : OpR X (compareOp op) r) (hs : OpS X.K G W f r) (ha : PE X a (wpE X.K G W ma)) (hb : PE X b (wpE X.K G W mb)) (hm : behindInMarks op b = false) : PT X (.Compare a [op] [b] pos) (wpT X.K G W (mTest (mOp2 f ma mb))) :=
  pt_conv (pt_cmpR ho ha hb hm) (test (op2 hs))
theorem t_val {e : Expr} {m : MEx} (h : PE X e (wpE X.K G W m)) (he : ∀ whole, isTrue e X.env whole = (do let v ← whole; standAt e.pos; holding [v] (truthy v)) := by intro _; rfl) : PT X e (wpT X.K G W (mTest m)) :=
  pt_conv (pt_val h he) (test fun _ _ _ z => z)
end
def tAnd' (a b : MTs) : MTs := fun ρ S => (a ρ S).bind fun c S1 => if c = true then b ρ S1 else .ok false S1
def tOr' (a b : MTs) : MTs := fun ρ S => (a ρ S).bind fun c S1 => if c = true then .ok true S1 else b ρ S1
def tNot' (a : MTs) : MTs := fun ρ S => (a ρ S).bind fun c S1 => .ok (!c) S1
section
variable {a b : Expr} {rest : List Expr} {ma mb : MTs} {pos : Pos}
theorem t_and1 (ha : PT X a (wpT X.K G W ma)) : PW X (.BoolOp .And [a] pos) (wpT X.K G W ma) := pw_and1 ha
theorem t_or1 (ha : PT X a (wpT X.K G W ma)) : PW X (.BoolOp .Or [a] pos) (wpT X.K G W ma) := pw_or1 ha
theorem t_and (ha : PT X a (wpT X.K G W ma)) (hb : PW X (.BoolOp .And (b :: rest) pos) (wpT X.K G W mb)) : PW X (.BoolOp .And (a :: b :: rest) pos) (wpT X.K G W (tAnd' ma mb)) := by
  refine pw_conv (pw_and ha hb) ?_
  rintro σ H Q ⟨φ, ρ, S, em, rs, h⟩
  refine ⟨φ, ρ, S, em, rs, h.bind fun c S1 φ1 c' H1 x em1 rv h1 => ?_⟩
  cases (show c = c' from rv)
  cases c with
  | true => rw [if_pos rfl] at h1 ⊢; exact ⟨φ1, ρ, S1, em1, rs.ext x, h1⟩
  | false => rw [if_neg Bool.false_ne_true] at h1 ⊢; exact outR.ok (R := rT) h1 em1 rfl
theorem t_or (ha : PT X a (wpT X.K G W ma)) (hb : PW X (.BoolOp .Or (b :: rest) pos) (wpT X.K G W mb)) : PW X (.BoolOp .Or (a :: b :: rest) pos) (wpT X.K G W (tOr' ma mb)) := by
  refine pw_conv (pw_or ha hb) ?_
  rintro σ H Q ⟨φ, ρ, S, em, rs, h⟩
  refine ⟨φ, ρ, S, em, rs, h.bind fun c S1 φ1 c' H1 x em1 rv h1 => ?_⟩
  cases (show c = c' from rv)
  cases c with
  | true => rw [if_pos rfl] at h1 ⊢; exact outR.ok (R := rT) h1 em1 rfl
  | false => rw [if_neg Bool.false_ne_true] at h1 ⊢; exact ⟨φ1, ρ, S1, em1, rs.ext x, h1⟩
theorem t_not (ha : PT X a (wpT X.K G W ma)) : PT X (.UnaryOp .Not a pos) (wpT X.K G W (tNot' ma)) := by
  refine pt_conv (pt_not ha) ?_
  rintro σ H Q ⟨φ, ρ, S, em, rs, h⟩
  refine ⟨φ, ρ, S, em, rs, h.bind fun c S1 φ1 c' H1 x em1 rv h1 => ?_⟩
  cases (show c = c' from rv)
  exact outR.ok (R := rT) h1 em1 rfl
end
/-- and, or, not as values (truths all but the last) -/
def mAnd (a b : MEx) : MEx := fun ρ S => (a ρ S).bind fun d S1 => match d with
  | .bl true => b ρ S1
  | .bl false => .ok (.bl false) S1
  | _ => .stuck
def mOr (a b : MEx) : MEx := fun ρ S => (a ρ S).bind fun d S1 => match d with
  | .bl true => .ok (.bl true) S1
  | .bl false => b ρ S1
  | _ => .stuck
def mNot (a : MEx) : MEx := fun ρ S => (a ρ S).bind fun d S1 => match d with
  | .bl b => .ok (.bl (!b)) S1
  | _ => .stuck
def mIfE (c : MTs) (a b : MEx) : MEx := fun ρ S => (c ρ S).bind fun t S1 => if t = true then a ρ S1 else b ρ S1
section
variable {a b c : Expr} {rest : List Expr} {ma mb : MEx} {mc : MTs} {pos : Pos}
theorem d_one {op : BoolOp} (h : PE X a (wpE X.K G W ma)) : PE X (.BoolOp op [a] pos) (wpE X.K G W ma) := pe_one h
theorem d_and (ha : PE X a (wpE X.K G W ma)) (hb : PE X (.BoolOp .And (b :: rest) pos) (wpE X.K G W mb)) : PE X (.BoolOp .And (a :: b :: rest) pos) (wpE X.K G W (mAnd ma mb)) := by
  refine pe_conv (pe_and ha hb) ?_
  rintro σ H Q ⟨φ, ρ, S, em, rs, h⟩
  refine ⟨φ, ρ, S, em, rs, h.bind fun d S1 φ1 v H1 x em1 rv h1 => ?_⟩
  cases rv with
  | @bl t =>
    refine ⟨t, rfl, ?_⟩
    cases t with
    | true => exact ⟨φ1, ρ, S1, em1, rs.ext x, h1⟩
    | false => exact outR.ok (R := rE X.K G) h1 em1 .bl
  | _ => exact h1.elim
theorem d_or (ha : PE X a (wpE X.K G W ma)) (hb : PE X (.BoolOp .Or (b :: rest) pos) (wpE X.K G W mb)) : PE X (.BoolOp .Or (a :: b :: rest) pos) (wpE X.K G W (mOr ma mb)) := by
  refine pe_conv (pe_or ha hb) ?_
  rintro σ H Q ⟨φ, ρ, S, em, rs, h⟩
  refine ⟨φ, ρ, S, em, rs, h.bind fun d S1 φ1 v H1 x em1 rv h1 => ?_⟩
  cases rv with
  | @bl t =>
    refine ⟨t, rfl, ?_⟩
    cases t with
    | true => exact outR.ok (R := rE X.K G) h1 em1 .bl
    | false => exact ⟨φ1, ρ, S1, em1, rs.ext x, h1⟩
  | _ => exact h1.elim
theorem d_not (ha : PE X a (wpE X.K G W ma)) : PE X (.UnaryOp .Not a pos) (wpE X.K G W (mNot ma)) := by
  refine pe_conv (pe_not ha) ?_
  rintro σ H Q ⟨φ, ρ, S, em, rs, h⟩
  refine ⟨φ, ρ, S, em, rs, h.bind fun d S1 φ1 v H1 x em1 rv h1 => ?_⟩
  cases rv with
  | @bl t => exact ⟨t, rfl, outR.ok (R := rE X.K G) h1 em1 .bl⟩
  | _ => exact h1.elim
theorem d_ife (hc : PT X c (wpT X.K G W mc)) (ha : PE X a (wpE X.K G W ma)) (hb : PE X b (wpE X.K G W mb)) : PE X (.IfExp c a b pos) (wpE X.K G W (mIfE mc ma mb)) := by
  refine pe_conv (pe_ifExp hc ha hb) ?_
  rintro σ H Q ⟨φ, ρ, S, em, rs, h⟩
  refine ⟨φ, ρ, S, em, rs, h.bind fun t S1 φ1 t' H1 x em1 rv h1 => ?_⟩
  cases (show t = t' from rv)
  cases t with
  | true => exact ⟨φ1, ρ, S1, em1, rs.ext x, h1⟩
  | false => exact ⟨φ1, ρ, S1, em1, rs.ext x, h1⟩
end
/-! ### arguments, displays -/
def aNil : MAr := fun _ S => .ok [] S
def aCons (a : MEx) (r : MAr) : MAr := fun ρ S => (a ρ S).bind fun d S1 => (r ρ S1).bind fun ds S2 => .ok (d :: ds) S2
section
variable {e : Expr} {es : List Expr} {m : MEx} {ms : MAr} {pos : Pos}
theorem a_nil : PA X [] (wpA X.K G W aNil) := by
  refine pa_conv pa_nil ?_
  rintro σ H Q ⟨φ, ρ, S, em, rs, h⟩
  exact outR.ok (R := rA X.K G) h em .nil
theorem a_cons (ha : PE X e (wpE X.K G W m)) (hr : PA X es (wpA X.K G W ms)) (hs : starEach (e :: es) X.env = (false, eval e X.env) :: starEach es X.env := by rfl) : PA X (e :: es) (wpA X.K G W (aCons m ms)) := by
  refine pa_conv (pa_cons ha hr hs) ?_
  rintro σ H Q ⟨φ, ρ, S, em, rs, h⟩
  refine ⟨φ, ρ, S, em, rs, h.bind fun d S1 φ1 v H1 x em1 rv h1 => ?_⟩
  refine ⟨φ1, ρ, S1, em1, rs.ext x, h1.bind fun ds S2 φ2 vs H2 x2 em2 rvs h2 => ?_⟩
  exact outR.ok (R := rA X.K G) h2 em2 (.cons (RV.ext x2 rv) rvs)
def tupD (ds : List D) (S : Sto) : Res D := if ds.length ≤ sizeLine then .ok (.tup ds) S else .stuck
def mTup (ms : MAr) : MEx := fun ρ S => (ms ρ S).bind tupD
theorem d_tup {j : Nat} (h : PA X es (wpA X.K G W ms)) : PE X (.Tuple es j pos) (wpE X.K G W (mTup ms)) := by
  refine pe_conv (pe_tup h) ?_
  rintro σ H Q ⟨φ, ρ, S, em, rs, h⟩
  refine ⟨φ, ρ, S, em, rs, h.bind fun ds S1 φ1 vs H1 x em1 rv h1 => ?_⟩
  unfold tupD at h1
  split at h1
  · rename_i hl
    refine ⟨by rw [← RVs.length rv]; exact hl, fun p hp => ?_⟩
    exact h1 φ1 _ _ (.other hp) (em1.other hp) (.tup (.of upd_same) (RVs.ext (.other hp) rv))
  · exact h1.elim
/-- a new object -/
def newO (o : O) (S : Sto) : Res D := .ok (.loc S.length) (S ++ [o])
/-- a new list that nobody will change -/
def newV (ds : List D) (S : Sto) : Res D := if pureAll ds = true then .ok (.vl ds) S else .stuck
/-- a new list: tr: one that may be changed -/
def newL (tr : Bool) (ds : List D) (S : Sto) : Res D := match tr with
  | true => newO (.lst ds) S
  | false => newV ds S
def lstD (tr : Bool) (ds : List D) (S : Sto) : Res D := if ds.length ≤ sizeLine then newL tr ds S else .stuck
def mLst (tr : Bool) (ms : MAr) : MEx := fun ρ S => (ms ρ S).bind (lstD tr)
theorem outR.newL {K : PySem.W.Frag} {tr : Bool} {ds : List D} {S : Sto} {φ : List Addr} {σ : St} {H : Hp} {Q : VK} {vs : List V} {p : Addr} (h : outR K G W (rE K G) (newL tr ds S) φ σ H Q) (em : Emb K G φ S H) (rv : RVs K G H φ ds vs) (hp : H p = none) :
    Q (.ref p) (upd H p (.lst vs)) := by
  cases tr with
  | true =>
    refine h (φ ++ [p]) (.ref p) _ (.new hp) (em.new hp (.lst upd_same (RVs.ext (.new hp) rv))) (.loc ?_)
    rw [← em.len]
    simp
  | false =>
    unfold MP.newL newV at h
    simp only at h
    split at h
    · rename_i hpu
      refine h φ (.ref p) _ (.other hp) (em.other hp) (.vl (fun z => ?_) upd_same (RVs.ext (.other hp) rv) hpu)
      obtain ⟨u, e⟩ := em.there z
      rw [hp] at e; cases e
    · exact h.elim
theorem d_lst {tr : Bool} (h : PA X es (wpA X.K G W ms)) : PE X (.List es pos) (wpE X.K G W (mLst tr ms)) := by
  refine pe_conv (pe_lst h) ?_
  rintro σ H Q ⟨φ, ρ, S, em, rs, h⟩
  refine ⟨φ, ρ, S, em, rs, h.bind fun ds S1 φ1 vs H1 x em1 rv h1 => ?_⟩
  unfold lstD at h1
  split at h1
  · rename_i hl
    exact ⟨by rw [← RVs.length rv]; exact hl, fun p hp => h1.newL em1 rv hp⟩
  · exact h1.elim
end
/-! ### the operators' meanings -/
/-- a list as it may be changed, or copied out of by the strict ones -/
def lsmO (S : Sto) (d : D) : Option (List D) := match d with
  | .vl xs => some xs
  | .loc l => match S[l]? with
    | some (.lst xs) => some xs
    | _ => none
  | _ => none
theorem lsm_ok {K : PySem.W.Frag} {φ : List Addr} {S : Sto} {H : Hp} (em : Emb K G φ S H) {d : D} {v : V} {xs : List D} (r : RV K G H φ d v) (h : lsmO S d = some xs) : ∃ p vs, v = .ref p ∧ H p = some (.lst vs) ∧ RVs K G H φ xs vs := by
  unfold lsmO at h
  split at h
  · cases h
    cases r with
    | vl n q s p => exact ⟨_, _, rfl, q, s⟩
  · split at h
    · rename_i ys e
      cases h
      obtain ⟨a, rfl, _, ro⟩ := em.at_loc e r
      obtain ⟨vs, sq, rv⟩ := ro.lstM
      exact ⟨_, _, rfl, sq, rv⟩
    · cases h
  · cases h
/-- a list as it may be read -/
def lstO (S : Sto) (d : D) : Option (List D) := match d with
  | .vl xs => some xs
  | .cl xs => some xs
  | .loc l => match S[l]? with
    | some (.lst xs) => some xs
    | _ => none
  | _ => none
theorem lst_ok {K : PySem.W.Frag} {φ : List Addr} {S : Sto} {H : Hp} (em : Emb K G φ S H) {d : D} {v : V} {xs : List D} (r : RV K G H φ d v) (h : lstO S d = some xs) : ∃ p vs, v = .ref p ∧ SqL K H p vs ∧ RVs K G H φ xs vs := by
  unfold lstO at h
  split at h
  · cases h
    cases r with
    | vl n q s p => exact ⟨_, _, rfl, .inl (.inl q), s⟩
  · cases h
    cases r with
    | cl q s p => exact ⟨_, _, rfl, q.sql, s⟩
  · split at h
    · rename_i ys e
      cases h
      obtain ⟨a, rfl, _, ro⟩ := em.at_loc e r
      obtain ⟨vs, sq, rv⟩ := ro.sql
      exact ⟨_, _, rfl, sq, rv⟩
    · cases h
  · cases h
def catL (tr : Bool) (x y : Option (List D)) (S : Sto) : Res D := match x, y with
  | some xs, some ys => if xs.length + ys.length ≤ sizeLine then newL tr (xs ++ ys) S else .stuck
  | _, _ => .stuck
def addD (tr : Bool) (x y : D) (S : Sto) : Res D := match x, y with
  | .int i, .int j => .ok (.int (i + j)) S
  | .str a, .str b => if a.length + b.length ≤ sizeLine then .ok (.str (a ++ b)) S else .stuck
  | .tup xs, .tup ys => if xs ≠ [] ∧ ys ≠ [] ∧ xs.length + ys.length ≤ sizeLine then .ok (.tup (xs ++ ys)) S else .stuck
  | x, y => catL tr (lstO S x) (lstO S y) S
/-- list + list, also of known ones -/
def rCatQ (K : PySem.W.Frag) : R2 := fun x y H Q => ∃ l b xs zs, x = .ref l ∧ y = .ref b ∧ SqL K H l xs ∧ SqL K H b zs ∧ xs.length + zs.length ≤ sizeLine ∧ ∀ p, H p = none → Q (.ref p) (upd H p (.lst (xs ++ zs)))
end
end MP

set_option Elab.async false
set_option linter.all false
set_option maxRecDepth 100000
set_option maxHeartbeats 2000000
namespace MP
open PySem L2
section
variable {X : Cx} {G : Ga} {W : WX} {k : Nat}
theorem op_catQ : OpR X (binaryOp .Add) (rCatQ X.K) := by
  intro pins s σ H x y v u Q I rx ry h
  obtain ⟨l, b, xs, zs, rfl, rfl, hH, hB, hz, q⟩ := h
  cases rx
  cases ry
  obtain ⟨its, r, pl, hl⟩ := I.list hH
  obtain ⟨its2, r2, pl2, hl2⟩ := I.list hB
  have e1 := r.length
  have e2 := r2.length
  obtain ⟨o, n, ho, hc, hdn, hd⟩ := pl
  obtain ⟨o', n', ho', hc', hdn', hd'⟩ := pl2
  obtain ⟨cls, dd, data, sl⟩ := o
  obtain ⟨cls', dd', data', sl'⟩ := o'
  simp only at hc hd hc' hd' hdn hdn'
  subst hc hd hc' hd' hdn hdn'
  refine PySem.concat_meets ⟨_, ho, rfl⟩ ⟨_, ho', rfl⟩ PySem.noFill_list_add PySem.seq_list_add PySem.F.slot_list_add PySem.F.entry_list_add (PySem.F.args_list_add_2 _ _)
    (PyProof.Rows.list_addW l b its.toArray its2.toArray n n' _ _ sl sl' (by simp; omega)) ⟨ho, ho', ?_⟩
  have ea : its.toArray ++ its2.toArray = (its ++ its2).toArray := by simp
  rw [ea]
  exact ⟨.ref _, _, I.lnew (t' := s.toks) (r.append r2) (by rw [List.length_append]; omega), rfl, q _ I.fresh⟩
def rAddU (K : PySem.W.Frag) : R2 := fun x y H Q => (rI0 (fun i j => .int (i + j))) x y H Q ∨ (∃ i j, x = .str i ∧ y = .str j ∧ i.length + j.length ≤ sizeLine ∧ Q (.str (i ++ j)) H) ∨ rCatQ K x y H Q ∨ rCatT K x y H Q
theorem op_addU : OpR X (binaryOp .Add) (rAddU X.K) := op_add.or (op_add_str.or (op_catQ.or op_catT))
theorem s_add {K : PySem.W.Frag} {tr : Bool} : OpS K G W (addD tr) (rAddU K) := by
  intro φ S σ H d1 d2 v1 v2 Q em r1 r2 h
  unfold addD at h
  split at h
  · cases r1; cases r2
    exact .inl ⟨_, _, rfl, rfl, outR.ok (R := rE K G) h em .int⟩
  · cases r1; cases r2
    split at h
    · rename_i hl
      exact .inr (.inl ⟨_, _, rfl, rfl, hl, outR.ok (R := rE K G) h em .str⟩)
    · exact h.elim
  · split at h
    · rename_i hl
      cases r1 with
      | tup s1 q1 =>
        cases r2 with
        | tup s2 q2 =>
          have e1 := RVs.length q1
          have e2 := RVs.length q2
          refine .inr (.inr (.inr ⟨_, _, _, _, rfl, rfl, s1, s2, ?_, by rw [← e1, ← e2]; exact hl.2.2, ?_, ?_⟩))
          · intro z
            rw [z] at e1
            exact hl.1 (List.length_eq_zero_iff.mp e1)
          · intro z
            rw [z] at e2
            exact absurd (List.length_eq_zero_iff.mp e2) hl.2.1
          · intro _ p hp
            exact h φ _ _ (.other hp) (em.other hp) (.tup (.of upd_same) (RVs.ext (.other hp) (RVs.append q1 q2)))
    · exact h.elim
  · unfold catL at h
    split at h
    · rename_i xs ys e1 e2
      split at h
      · rename_i hl
        obtain ⟨a, vs, rfl, hs, rv⟩ := lst_ok em r1 e1
        obtain ⟨b, vs', rfl, hs', rv'⟩ := lst_ok em r2 e2
        refine .inr (.inr (.inl ⟨a, b, vs, vs', rfl, rfl, hs, hs', by rw [← RVs.length rv, ← RVs.length rv']; exact hl, fun p hp => ?_⟩))
        exact h.newL em (RVs.append rv rv') hp
      · exact h.elim
    · exact h.elim
/-- int operators -/
def intOp (f : Int → Int → Option Int) : D → D → Sto → Res D := fun x y S => match x, y with
  | .int i, .int j => match f i j with
    | some z => .ok (.int z) S
    | none => .stuck
  | _, _ => .stuck
theorem s_int {K : PySem.W.Frag} {f : Int → Int → Option Int} {C : Int → Int → Prop} {g : Int → Int → Int} (hf : ∀ i j z, f i j = some z → C i j ∧ z = g i j) : OpS K G W (intOp f) (rI C fun i j => .int (g i j)) := by
  intro φ S σ H d1 d2 v1 v2 Q em r1 r2 h
  unfold intOp at h
  split at h
  · cases r1; cases r2
    split at h
    · rename_i z e
      obtain ⟨c, rfl⟩ := hf _ _ _ e
      exact ⟨_, _, rfl, rfl, c, outR.ok (R := rE K G) h em .int⟩
    · exact h.elim
  · exact h.elim
theorem s_int0 {K : PySem.W.Frag} {f : Int → Int → Option Int} {g : Int → Int → Int} (hf : ∀ i j z, f i j = some z → z = g i j) : OpS K G W (intOp f) (rI0 fun i j => .int (g i j)) := by
  intro φ S σ H d1 d2 v1 v2 Q em r1 r2 h
  unfold intOp at h
  split at h
  · cases r1; cases r2
    split at h
    · rename_i z e
      have := hf _ _ _ e
      subst this
      exact ⟨_, _, rfl, rfl, outR.ok (R := rE K G) h em .int⟩
    · exact h.elim
  · exact h.elim
def subI (i j : Int) : Option Int := some (i - j)
def fdivI (i j : Int) : Option Int := if 0 < j ∧ j.natAbs.log2 < 9000 then some (i / j) else none
def modI (i j : Int) : Option Int := if 0 < j then some (i % j) else none
def powI (i j : Int) : Option Int := if 0 ≤ j ∧ j ≤ 1000000 ∧ i.natAbs < 2 ^ 64 then some (i ^ j.toNat) else none
def shlI (i j : Int) : Option Int := if 0 ≤ j ∧ (Builtin.Int.intBits i : Int) + j ≤ 2 ^ 27 then some (i * 2 ^ j.toNat) else none
def shrI (i j : Int) : Option Int := if 0 ≤ j then some (i / 2 ^ j.toNat) else none
def andI (i j : Int) : Option Int := some (Builtin.bitAnd i j)
def orI (i j : Int) : Option Int := some (Builtin.bitOr i j)
theorem ifs {c : Prop} [Decidable c] {z z' : Int} (h : (if c then some z' else none) = some z) : c ∧ z = z' := by
  split at h
  · rename_i hc; cases h; exact ⟨hc, rfl⟩
  · cases h
theorem s_sub {K : PySem.W.Frag} : OpS K G W (intOp subI) (rI0 fun i j => .int (i - j)) := s_int0 fun _ _ _ e => (Option.some.inj e).symm
theorem s_fdiv {K : PySem.W.Frag} : OpS K G W (intOp fdivI) (rI CDivW fun i j => .int (i / j)) := s_int fun _ _ _ e => by
  first | unfold fdivI at e | unfold modI at e | unfold powI at e | unfold shlI at e | unfold shrI at e
  have q := ifs e
  exact ⟨q.1, q.2⟩
theorem s_mod {K : PySem.W.Frag} : OpS K G W (intOp modI) (rI (fun _ j => 0 < j) fun i j => .int (i % j)) := s_int fun _ _ _ e => by
  first | unfold fdivI at e | unfold modI at e | unfold powI at e | unfold shlI at e | unfold shrI at e
  have q := ifs e
  exact ⟨q.1, q.2⟩
theorem s_pow {K : PySem.W.Frag} : OpS K G W (intOp powI) (rI CPow fun i j => .int (i ^ j.toNat)) := s_int fun _ _ _ e => by
  first | unfold fdivI at e | unfold modI at e | unfold powI at e | unfold shlI at e | unfold shrI at e
  have q := ifs e
  exact ⟨q.1, q.2⟩
theorem s_shl {K : PySem.W.Frag} : OpS K G W (intOp shlI) (rI CShl fun i j => .int (i * 2 ^ j.toNat)) := s_int fun _ _ _ e => by
  first | unfold fdivI at e | unfold modI at e | unfold powI at e | unfold shlI at e | unfold shrI at e
  have q := ifs e
  exact ⟨q.1, q.2⟩
theorem s_shr {K : PySem.W.Frag} : OpS K G W (intOp shrI) (rI (fun _ j => 0 ≤ j) fun i j => .int (i / 2 ^ j.toNat)) := s_int fun _ _ _ e => by
  first | unfold fdivI at e | unfold modI at e | unfold powI at e | unfold shlI at e | unfold shrI at e
  have q := ifs e
  exact ⟨q.1, q.2⟩
theorem s_band {K : PySem.W.Frag} : OpS K G W (intOp andI) (rI0 fun i j => .int (Builtin.bitAnd i j)) := s_int0 fun _ _ _ e => (Option.some.inj e).symm
theorem s_bor {K : PySem.W.Frag} : OpS K G W (intOp orI) (rI0 fun i j => .int (Builtin.bitOr i j)) := s_int0 fun _ _ _ e => (Option.some.inj e).symm
/-- n times a list of the store -/
def repL (tr : Bool) (xs : List D) (y : D) (S : Sto) : Res D := match y with
  | .int n => if -(2 ^ 63) ≤ n ∧ n < 2 ^ 63 ∧ xs.length * n.toNat ≤ sizeLine then newL tr (List.replicate n.toNat xs).flatten S else .stuck
  | _ => .stuck
def repO (tr : Bool) (o : Option (List D)) (y : D) (S : Sto) : Res D := match o with
  | some xs => repL tr xs y S
  | none => .stuck
def mulD (tr : Bool) (x y : D) (S : Sto) : Res D := match x, y with
  | .int i, .int j => if (Builtin.Int.intBits i : Int) + (Builtin.Int.intBits j : Int) ≤ 134217728 then .ok (.int (i * j)) S else .stuck
  | x, y => repO tr (lsmO S x) y S
def rMulU : R2 := fun x y H Q => (rI CMulX fun i j => .int (i * j)) x y H Q ∨ rRep x y H Q
theorem op_mulU : OpR X (binaryOp .Mult) rMulU := op_mulX.or op_rep
theorem RVs.rep {K : PySem.W.Frag} {H : Hp} {φ : List Addr} {xs : List D} {vs : List V} (r : RVs K G H φ xs vs) : ∀ n : Nat, RVs K G H φ (List.replicate n xs).flatten (List.replicate n vs).flatten
  | 0 => .nil
  | n + 1 => by
    rw [List.replicate_succ, List.replicate_succ, List.flatten_cons, List.flatten_cons]
    exact RVs.append r (RVs.rep r n)
theorem repL_ok {K : PySem.W.Frag} {tr : Bool} {xs : List D} {y : D} {vs : List V} {a : Addr} {u : V} {φ : List Addr} {S : Sto} {σ : St} {H : Hp} {Q : VK} (em : Emb K G φ S H) (ha : H a = some (.lst vs)) (rv : RVs K G H φ xs vs) (ry : RV K G H φ y u) (h : outR K G W (rE K G) (repL tr xs y S) φ σ H Q) : rRep (.ref a) u H Q := by
  unfold repL at h
  split at h
  · cases ry
    split at h
    · rename_i hl
      exact ⟨a, _, vs, rfl, rfl, ha, hl.1, hl.2.1, by rw [← RVs.length rv]; exact hl.2.2, fun p hp => h.newL em (RVs.rep rv _) hp⟩
    · exact h.elim
  · exact h.elim
theorem s_mul {K : PySem.W.Frag} {tr : Bool} : OpS K G W (mulD tr) rMulU := by
  intro φ S σ H d1 d2 v1 v2 Q em r1 r2 h
  unfold mulD at h
  split at h
  · cases r1; cases r2
    split at h
    · rename_i hl
      exact .inl ⟨_, _, rfl, rfl, hl, outR.ok (R := rE K G) h em .int⟩
    · exact h.elim
  · unfold repO at h
    split at h
    · rename_i xs e1
      obtain ⟨a, vs, rfl, hs, rv⟩ := lsm_ok em r1 e1
      exact .inr (repL_ok em hs rv r2 h)
    · exact h.elim
/-- [..] * n -/
def mRepD (tr : Bool) (ms : MAr) (mb : MEx) : MEx := fun ρ S => (ms ρ S).bind fun ds S1 => if ds.length ≤ sizeLine then (mb ρ S1).bind fun y S2 => repL tr ds y S2 else .stuck
theorem d_repD {tr : Bool} {es : List Expr} {b : Expr} {ms : MAr} {mb : MEx} {p pos : Pos} (ha : PA X es (wpA X.K G W ms)) (hb : PE X b (wpE X.K G W mb)) : PE X (.BinOp (.List es p) .Mult b pos) (wpE X.K G W (mRepD tr ms mb)) := by
  refine pe_conv (pe_op op_rep (pe_lst ha) hb) ?_
  rintro σ H Q ⟨φ, ρ, S, em, rs, h⟩
  refine ⟨φ, ρ, S, em, rs, h.bind fun ds S1 φ1 vs H1 x em1 rv h1 => ?_⟩
  split at h1
  · rename_i hl
    refine ⟨by rw [← RVs.length rv]; exact hl, fun p hp => ?_⟩
    have x2 : Ext φ1 H1 φ1 (upd H1 p (.lst vs)) := .other hp
    have np : p ∉ φ1 := fun z => by
      obtain ⟨u, e⟩ := em1.there z
      rw [hp] at e; cases e
    refine ⟨φ1, ρ, S1, em1.other hp, (rs.ext x).ext x2, (outR.from x2 h1).bind fun y S3 φ3 u H3 x3 em3 ry h3 => ?_⟩
    exact repL_ok em3 (x3.out _ _ np upd_same) (RVs.ext (x2.trans x3) rv) ry h3
  · exact h1.elim
/-! ### comparisons -/
def cmpI (p : Int → Int → Bool) : D → D → Sto → Res D := fun x y S => match x, y with
  | .int i, .int j => .ok (.bl (p i j)) S
  | _, _ => .stuck
theorem s_cmpI {K : PySem.W.Frag} {p : Int → Int → Bool} : OpS K G W (cmpI p) (rI0 fun i j => .bl (p i j)) := by
  intro φ S σ H d1 d2 v1 v2 Q em r1 r2 h
  unfold cmpI at h
  split at h
  · cases r1; cases r2
    exact ⟨_, _, rfl, rfl, outR.ok (R := rE K G) h em .bl⟩
  · exact h.elim
def ltI (i j : Int) : Bool := decide (i < j)
def leI (i j : Int) : Bool := decide (i ≤ j)
def gtI (i j : Int) : Bool := decide (j < i)
def geI (i j : Int) : Bool := decide (j ≤ i)
def D.isN : D → Bool
  | .non => true
  | _ => false
theorem RV.isN {K : PySem.W.Frag} {H : Hp} {φ : List Addr} {d : D} {v : V} (r : RV K G H φ d v) : decide (v = .non) = d.isN := by
  cases r <;> first | rfl | exact decide_eq_false (fun z => nomatch z)
def isD (x y : D) (S : Sto) : Res D := match y with
  | .non => .ok (.bl x.isN) S
  | _ => .stuck
def isNotD (x y : D) (S : Sto) : Res D := match y with
  | .non => .ok (.bl (!x.isN)) S
  | _ => .stuck
theorem s_is {K : PySem.W.Frag} : OpS K G W isD (fun x y H Q => y = .non ∧ Q (.bl (decide (x = .non))) H) := by
  intro φ S σ H d1 d2 v1 v2 Q em r1 r2 h
  unfold isD at h
  split at h
  · cases r2
    exact ⟨rfl, by rw [r1.isN]; exact outR.ok (R := rE K G) h em .bl⟩
  · exact h.elim
theorem s_isNot {K : PySem.W.Frag} : OpS K G W isNotD (fun x y H Q => y = .non ∧ Q (.bl (!decide (x = .non))) H) := by
  intro φ S σ H d1 d2 v1 v2 Q em r1 r2 h
  unfold isNotD at h
  split at h
  · cases r2
    exact ⟨rfl, by rw [r1.isN]; exact outR.ok (R := rE K G) h em .bl⟩
  · exact h.elim
/-- plain data as the library's == reads it -/
def D.scalar : D → Bool
  | .non => true | .bl _ => true | .int _ => true | .str _ => true | _ => false
def pd (S : Sto) : Nat → D → Option PyData
  | _, .non => some .none
  | _, .bl b => some (.bool b)
  | _, .int i => some (.int i)
  | _, .str x => some (.str x)
  | n + 1, .tup xs => (optAll (pd S n) xs).map .tuple
  | n + 1, .vl xs => (optAll (pd S n) xs).map .list
  | n + 1, .cl xs => (optAll (pd S n) xs).map .list
  | n + 1, .loc l => match S[l]? with
    | some (.lst xs) => (optAll (pd S n) xs).map .list
    | _ => none
  | _, _ => none
theorem dp_all {K : PySem.W.Frag} {H : Hp} {φ : List Addr} {f : D → Option PyData} (ih : ∀ d v p, RV K G H φ d v → f d = some p → Dp K H v p) : ∀ {ds : List D} {vs : List V} {ps : List PyData}, RVs K G H φ ds vs → optAll f ds = some ps → DpAll K H vs ps
  | _, _, _, .nil, e => by cases e; exact .nil
  | _, _, _, .cons (d := d) (ds := ds) a b, e => by
    unfold optAll at e
    split at e
    · rename_i y ys e1 e2
      cases e
      exact .cons (ih _ _ _ a e1) (dp_all ih b e2)
    · cases e
theorem pd_dp {K : PySem.W.Frag} {φ : List Addr} {S : Sto} {H : Hp} (em : Emb K G φ S H) : ∀ (n : Nat) (d : D) (v : V) (p : PyData), RV K G H φ d v → pd S n d = some p → Dp K H v p := by
  intro n
  induction n with
  | zero =>
    intro d v p r e
    cases r with
    | non => unfold pd at e; cases e; exact .non
    | bl => unfold pd at e; cases e; exact .bl _
    | int => unfold pd at e; cases e; exact .int _
    | str => unfold pd at e; cases e; exact .str _
    | _ => unfold pd at e; cases e
  | succ n ih =>
    intro d v p r e
    cases r with
    | non => unfold pd at e; cases e; exact .non
    | bl => unfold pd at e; cases e; exact .bl _
    | int => unfold pd at e; cases e; exact .int _
    | str => unfold pd at e; cases e; exact .str _
    | tup s q =>
      unfold pd at e
      obtain ⟨ps, e1, rfl⟩ := Option.map_eq_some_iff.mp e
      exact .tup s (dp_all ih q e1)
    | vl n s q hp =>
      unfold pd at e
      obtain ⟨ps, e1, rfl⟩ := Option.map_eq_some_iff.mp e
      exact .lst (.inl (.inl s)) (dp_all ih q e1)
    | cl s q hp =>
      unfold pd at e
      obtain ⟨ps, e1, rfl⟩ := Option.map_eq_some_iff.mp e
      exact .lst s.sql (dp_all ih q e1)
    | vd => unfold pd at e; cases e
    | vo => unfold pd at e; cases e
    | loc q =>
      unfold pd at e
      split at e
      · rename_i xs es
        obtain ⟨ps, e1, rfl⟩ := Option.map_eq_some_iff.mp e
        obtain ⟨vs, sq, rv⟩ := (em.ob _ _ _ es q).sql
        exact .lst sq (dp_all ih rv e1)
      · cases e
def deepEq (S : Sto) (x y : D) : Option Bool := match pd S 8 x, pd S 8 y with
  | some p, some q => if SeqAt.shaped p = true ∧ SeqAt.shaped q = true then some (PyData.eqv p q) else none
  | _, _ => none
def eqD (S : Sto) (x y : D) : Option Bool := match x, y with
  | .int i, .int j => some (decide (i = j))
  | .str a, .str b => some (decide (a = b))
  | .bl a, .bl b => some (decide (a = b))
  | .non, .non => some true
  | .non, .int _ => some false
  | .int _, .non => some false
  | .non, .str _ => some false
  | .str _, .non => some false
  | .non, .bl _ => some false
  | .bl _, .non => some false
  | .int _, .str _ => some false
  | .str _, .int _ => some false
  | .bl _, .str _ => some false
  | .str _, .bl _ => some false
  | x, y => deepEq S x y
theorem eqD_ok {K : PySem.W.Frag} {φ : List Addr} {S : Sto} {H : Hp} (em : Emb K G φ S H) {x y : D} {v u : V} {b : Bool} (r1 : RV K G H φ x v) (r2 : RV K G H φ y u) (h : eqD S x y = some b) :
    (scal v u = true ∧ decide (v = u) = b) ∨ ∃ p q, Dp K H v p ∧ Dp K H u q ∧ SeqAt.shaped p = true ∧ SeqAt.shaped q = true ∧ PyData.eqv p q = b := by
  have deep : deepEq S x y = some b → ∃ p q, Dp K H v p ∧ Dp K H u q ∧ SeqAt.shaped p = true ∧ SeqAt.shaped q = true ∧ PyData.eqv p q = b := by
    intro h
    unfold deepEq at h
    split at h
    · rename_i p q e1 e2
      split at h
      · rename_i hs
        cases h
        exact ⟨p, q, pd_dp em 8 x v p r1 e1, pd_dp em 8 y u q r2 e2, hs.1, hs.2, rfl⟩
      · cases h
    · cases h
  unfold eqD at h
  split at h
  · cases r1; cases r2; cases h; exact .inl ⟨rfl, decide_eq_decide.mpr ⟨fun z => V.int.inj z, fun z => by rw [z]⟩⟩
  · cases r1; cases r2; cases h; exact .inl ⟨rfl, decide_eq_decide.mpr ⟨fun z => V.str.inj z, fun z => by rw [z]⟩⟩
  · cases r1; cases r2; cases h; exact .inl ⟨rfl, decide_eq_decide.mpr ⟨fun z => V.bl.inj z, fun z => by rw [z]⟩⟩
  · cases r1; cases r2; cases h; exact .inl ⟨rfl, rfl⟩
  all_goals first
    | (cases r1; cases r2; cases h; exact .inl ⟨rfl, decide_eq_false (fun z => nomatch z)⟩)
    | exact .inr (deep h)
def eqR (x y : D) (S : Sto) : Res D := match eqD S x y with
  | some b => .ok (.bl b) S
  | none => .stuck
def neR (x y : D) (S : Sto) : Res D := match eqD S x y with
  | some b => .ok (.bl (!b)) S
  | none => .stuck
def rEqU (K : PySem.W.Frag) : R2 := fun x y H Q => rEq x y H Q ∨ rEqD K x y H Q
def rNeU (K : PySem.W.Frag) : R2 := fun x y H Q => rNe x y H Q ∨ rNeD K x y H Q
theorem op_eqU (d : DX X G W k) : OpR X (compareOp .Eq) (rEqU X.K) := op_eq.or (op_eqD d.hr.units)
theorem op_neU (d : DX X G W k) : OpR X (compareOp .NotEq) (rNeU X.K) := op_ne.or (op_neD d.hr.units)
theorem s_eq {K : PySem.W.Frag} : OpS K G W eqR (rEqU K) := by
  intro φ S σ H d1 d2 v1 v2 Q em r1 r2 h
  unfold eqR at h
  split at h
  · rename_i b e
    have q := outR.ok (R := rE K G) h em .bl
    rcases eqD_ok em r1 r2 e with ⟨h1, h2⟩ | ⟨p, q', h1, h2, h3, h4, h5⟩
    · exact .inl ⟨h1, by rw [h2]; exact q⟩
    · exact .inr ⟨p, q', h1, h2, h3, h4, by rw [h5]; exact q⟩
  · exact h.elim
theorem s_ne {K : PySem.W.Frag} : OpS K G W neR (rNeU K) := by
  intro φ S σ H d1 d2 v1 v2 Q em r1 r2 h
  unfold neR at h
  split at h
  · rename_i b e
    have q := outR.ok (R := rE K G) h em .bl
    rcases eqD_ok em r1 r2 e with ⟨h1, h2⟩ | ⟨p, q', h1, h2, h3, h4, h5⟩
    · exact .inl ⟨h1, by rw [h2]; exact q⟩
    · exact .inr ⟨p, q', h1, h2, h3, h4, by rw [h5]; exact q⟩
  · exact h.elim
/-! ### is it in: flat things in a list or a tuple -/
def flatD : D → Bool
  | .non => true | .bl _ => true | .int _ => true | .str _ => true | _ => false
/-- list, tuple: the items -/
def items (S : Sto) (d : D) : Option (List D) := match d with
  | .tup xs => some xs
  | d => lstO S d
theorem items_ok {K : PySem.W.Frag} {φ : List Addr} {S : Sto} {H : Hp} (em : Emb K G φ S H) {d : D} {v : V} {xs : List D} (r : RV K G H φ d v) (h : items S d = some xs) : ∃ p vs, v = .ref p ∧ (SqL K H p vs ∨ SqT K H p vs) ∧ RVs K G H φ xs vs := by
  unfold items at h
  split at h
  · cases r with
    | tup s q => cases h; exact ⟨_, _, rfl, .inr s, q⟩
  · obtain ⟨p, vs, e, sq, rv⟩ := lst_ok em r h
    exact ⟨p, vs, e, .inl sq, rv⟩
def eqFlat : D → D → Bool
  | .non, .non => true
  | .bl a, .bl b => a == b
  | .bl a, .int b => (if a then 1 else 0) == b
  | .int a, .bl b => a == (if b then 1 else 0)
  | .int a, .int b => a == b
  | .str a, .str b => a == b
  | _, _ => false
theorem flat_ok {K : PySem.W.Frag} {H : Hp} {φ : List Addr} {d : D} {v : V} (r : RV K G H φ d v) (f : flatD d = true) : flatV v = true := by
  cases r <;> first | rfl | exact absurd (show false = true from f) Bool.false_ne_true
theorem flat_all {K : PySem.W.Frag} {H : Hp} {φ : List Addr} : ∀ {ds : List D} {vs : List V}, RVs K G H φ ds vs → ds.all flatD = true → vs.all flatV = true
  | _, _, .nil, _ => rfl
  | _, _, .cons a b, f => by
    rw [List.all_cons, Bool.and_eq_true] at f ⊢
    exact ⟨flat_ok a f.1, flat_all b f.2⟩
theorem eqFlat_ok {K : PySem.W.Frag} {H : Hp} {φ : List Addr} {d e : D} {v u : V} (r : RV K G H φ d v) (q : RV K G H φ e u) (f : flatD d = true) (g : flatD e = true) : eqV v u = eqFlat d e := by
  cases r <;> cases q <;> first | rfl | exact absurd (show false = true from f) Bool.false_ne_true | exact absurd (show false = true from g) Bool.false_ne_true
def inFlat (x : D) (xs : List D) : Bool := xs.any fun y => eqFlat y x
theorem inFlat_ok {K : PySem.W.Frag} {H : Hp} {φ : List Addr} {x : D} {v : V} (r : RV K G H φ x v) (f : flatD x = true) : ∀ {ds : List D} {vs : List V}, RVs K G H φ ds vs → ds.all flatD = true → inV v vs = inFlat x ds
  | _, _, .nil, _ => rfl
  | _, _, .cons a b, g => by
    rw [List.all_cons, Bool.and_eq_true] at g
    have ih := inFlat_ok r f b g.2
    unfold inV at ih ⊢
    unfold inFlat at ih ⊢
    rw [List.any_cons, List.any_cons, ih, eqFlat_ok a r g.1 f]
end
end MP

set_option Elab.async false
set_option linter.all false
set_option maxRecDepth 100000
set_option maxHeartbeats 2000000
namespace MP
open PySem L2
section
variable {X : Cx} {G : Ga} {W : WX} {k : Nat}
/-! ### in -/
def inQ (neg : Bool) (x y : D) (S : Sto) : Res D := match items S y with
  | some ys => if flatD x = true ∧ ys.all flatD = true then .ok (.bl (if neg then !inFlat x ys else inFlat x ys)) S else .stuck
  | none => .stuck
theorem s_inQ {K : PySem.W.Frag} {neg : Bool} : OpS K G W (inQ neg) (rIn K neg) := by
  intro φ S σ H d1 d2 v1 v2 Q em r1 r2 h
  unfold inQ at h
  split at h
  · rename_i ys e
    split at h
    · rename_i hf
      obtain ⟨p, vs, rfl, hs, rv⟩ := items_ok em r2 e
      refine ⟨p, vs, rfl, hs, flat_ok r1 hf.1, flat_all rv hf.2, ?_⟩
      rw [inFlat_ok r1 hf.1 rv hf.2]
      exact outR.ok (R := rE K G) h em .bl
    · exact h.elim
  · exact h.elim
/-! ### fields -/
def getF (f : Fl) (d : D) (S : Sto) : Res D := match d with
  | .loc l => match S[l]? with
    | some (.ins _ fs) => match fs.lookup f with
      | some x => .ok x S
      | none => .stuck
    | _ => .stuck
  | .vo _ fs xs => match (fs.zip xs).lookup f with
    | some x => .ok x S
    | none => .stuck
  | _ => .stuck
def mFld (f : Fl) (m : MEx) : MEx := fun ρ S => (m ρ S).bind (getF f)
def Fl.un (s : Str) : Option Fl :=
  if s = "many" then some .many else if s = "cells" then some .cells else if s = "inside" then some .inside else if s = "row" then some .row else if s = "last_words" then some .last_words
  else if s = "named" then some .named else if s = "made" then some .made else if s = "line" then some .line else if s = "heap" then some .heap else if s = "part" then some .part
  else if s = "to_go" then some .to_go else if s = "gone" then some .gone else if s = "rooms" then some .rooms else if s = "memory" then some .memory else if s = "marking" then some .marking
  else if s = "fence" then some .fence else if s = "rows" then some .rows else if s = "phase" then some .phase else if s = "room" then some .room else none
theorem Fl.un_nm (f : Fl) : Fl.un f.nm = some f := by cases f <;> decide +kernel
theorem Fl.nm_inj {f g : Fl} (h : f.nm = g.nm) : f = g := by
  have e := congrArg Fl.un h
  rw [Fl.un_nm, Fl.un_nm] at e
  exact Option.some.inj e
theorem RKs.look {K : PySem.W.Frag} {H : Hp} {φ : List Addr} {fs : List (Fl × D)} {vs : List (Str × V)} (r : RKs K G H φ Fl.nm fs vs) {f : Fl} {d : D} (h : fs.lookup f = some d) : ∃ v, vs.lookup f.nm = some v ∧ RV K G H φ d v := by
  induction r with
  | nil => cases h
  | @cons g e v ds ws a b ih =>
    by_cases hg : f = g
    · subst hg
      rw [List.lookup_cons_self] at h
      cases h
      exact ⟨v, List.lookup_cons_self, a⟩
    · have h1 : (f == g) = false := by simpa using hg
      have h2 : (f.nm == g.nm) = false := by
        cases q : (f.nm == g.nm) with
        | false => rfl
        | true => exact absurd (Fl.nm_inj (eq_of_beq q)) hg
      rw [List.lookup_cons, h1] at h
      obtain ⟨v', e1, r1⟩ := ih h
      exact ⟨v', by rw [List.lookup_cons, h2]; exact e1, r1⟩
theorem RKs.nolook {K : PySem.W.Frag} {H : Hp} {φ : List Addr} {fs : List (Fl × D)} {vs : List (Str × V)} (r : RKs K G H φ Fl.nm fs vs) {m : Str} (h : ∀ f d, (f, d) ∈ fs → f.nm ≠ m) : vs.lookup m = none := by
  induction r with
  | nil => rfl
  | @cons g e v ds ws a b ih =>
    have h2 : (m == g.nm) = false := by
      cases q : (m == g.nm) with
      | false => rfl
      | true => exact absurd (eq_of_beq q).symm (h g e List.mem_cons_self)
    rw [List.lookup_cons, h2]
    exact ih fun f d hm => h f d (List.mem_cons_of_mem _ hm)
theorem Fl.look_mem {f : Fl} {d : D} : ∀ {fs : List (Fl × D)}, fs.lookup f = some d → (f, d) ∈ fs
  | [], h => by cases h
  | (g, e) :: fs, h => by
    by_cases hg : f = g
    · subst hg; rw [List.lookup_cons_self] at h; cases h; exact List.mem_cons_self
    · rw [List.lookup_cons, show (f == g) = false by simpa using hg] at h
      exact List.mem_cons_of_mem _ (Fl.look_mem h)
theorem d_fld {e : Expr} {m : MEx} {pos : Pos} {nm : Str} (f : Fl) (g : Gok X.K G) (he : PE X e (wpE X.K G W m)) (hf : f.nm = nm := by rfl) (hb : attributeBase e nm X.env (eval e X.env) = eval e X.env := by rfl) : PE X (.Attribute e nm pos) (wpE X.K G W (mFld f m)) := by
  subst hf
  refine pe_conv (pe_fld he hb) ?_
  rintro σ H Q ⟨φ, ρ, S, em, rs, h⟩
  refine ⟨φ, ρ, S, em, rs, h.bind fun d S1 φ1 v H1 x em1 rv h1 => ?_⟩
  unfold getF at h1
  split at h1
  · split at h1
    · rename_i l c fs es
      split at h1
      · rename_i y ey
        obtain ⟨a, rfl, ha, ro⟩ := em1.at_loc es rv
        cases ro with
        | ins e1 rk hh hall =>
          obtain ⟨w, ew, rw'⟩ := rk.look ey
          have hok : okF c f = true := List.all_eq_true.mp hall _ (Fl.look_mem ey)
          exact ⟨a, _, _, _, w, rfl, e1, g.cls c hh, g.noat c f hh hok, ew, outR.ok (R := rE X.K G) h1 em1 rw'⟩
      · exact h1.elim
    · exact h1.elim
  · rename_i c fs xs
    split at h1
    · rename_i y ey
      cases rv with
      | @vo _ _ _ vs a dx na e1 hh e r hall hp =>
        obtain ⟨w, ew, rw'⟩ := (RKs.zip e r).look ey
        have hok : okF c f = true := List.all_eq_true.mp hall _ (List.of_mem_zip (Fl.look_mem ey)).1
        exact ⟨a, _, _, _, w, rfl, e1, g.cls c hh, g.noat c f hh hok, ew, outR.ok (R := rE X.K G) h1 em1 rw'⟩
    · exact h1.elim
  · exact h1.elim
def putFl (f : Fl) (d : D) : List (Fl × D) → List (Fl × D)
  | [] => [(f, d)]
  | (g, e) :: r => if g = f then (g, d) :: r else (g, e) :: putFl f d r
theorem RKs.put {K : PySem.W.Frag} {H : Hp} {φ : List Addr} {fs : List (Fl × D)} {vs : List (Str × V)} (r : RKs K G H φ Fl.nm fs vs) {f : Fl} {d : D} {v : V} (q : RV K G H φ d v) : RKs K G H φ Fl.nm (putFl f d fs) (putF f.nm v vs) := by
  induction r with
  | nil => exact .cons q .nil
  | @cons g e w ds ws a b ih =>
    unfold putFl putF
    by_cases hg : g = f
    · subst hg
      rw [if_pos rfl, if_pos rfl]
      exact .cons q b
    · rw [if_neg hg, if_neg (fun z => hg (Fl.nm_inj z))]
      exact .cons a ih
theorem putFl_all {c : Cl} {f : Fl} {d : D} (hf : okF c f = true) : ∀ {fs : List (Fl × D)}, fs.all (fun f => okF c f.1) = true → (putFl f d fs).all (fun f => okF c f.1) = true
  | [], _ => by unfold putFl; simp [hf]
  | (g, e) :: r, h => by
    rw [List.all_cons, Bool.and_eq_true] at h
    unfold putFl
    by_cases hg : g = f
    · rw [if_pos hg, List.all_cons, Bool.and_eq_true]; exact h
    · rw [if_neg hg, List.all_cons, Bool.and_eq_true]; exact ⟨h.1, putFl_all hf h.2⟩
def setF (f : Fl) (o v : D) (S : Sto) : Option Sto := match o with
  | .loc l => match S[l]? with
    | some (.ins c fs) => if okF c f = true ∧ fs.length < 1000 then some (S.set l (.ins c (putFl f v fs))) else none
    | _ => none
  | _ => none
def nxO (ρ : Rho) : Option Sto → SR
  | some S => .nx ρ S
  | none => .stuck
def sFldS (f : Fl) (mo mv : MEx) : MSt := fun ρ S => (mv ρ S).st ρ fun v S1 => (mo ρ S1).st ρ fun o S2 => nxO ρ (setF f o v S2)
theorem s_fld {o value : Expr} {pos pos' : Pos} {nm : Str} {mo mv : MEx} (f : Fl) (g : Gok X.K G) (ho : PE X o (wpE X.K G W mo)) (hv : PE X value (wpE X.K G W mv)) (hf : f.nm = nm := by rfl)
    (hs : swapsWith value (some (.Attribute o nm pos')) pos.line X.env = pure false := by rfl) : PS X (.Assign [.Attribute o nm pos'] value pos) (wpS X.K G W (sFldS f mo mv)) := by
  subst hf
  refine ps_conv (ps_fld ho hv hs) ?_
  rintro E σ H ⟨φ, ρ, S, em, rs, h⟩
  refine ⟨φ, ρ, S, em, rs, outR.st rs h fun v S1 φ1 y H1 x em1 rv h1 => ?_⟩
  refine ⟨φ1, ρ, S1, em1, rs.ext x, outR.st (rs.ext x) h1 fun o' S2 φ2 y2 H2 x2 em2 rv2 h2 => ?_⟩
  unfold setF at h2
  split at h2
  · split at h2
    · rename_i l c fs es
      split at h2
      · rename_i hc
        obtain ⟨a, rfl, ha, ro⟩ := em2.at_loc es rv2
        cases ro with
        | @ins _ _ ws _ dx e1 rk hh hall =>
          refine ⟨a, _, _, _, rfl, e1, g.cls c hh, g.noat c f hh hc.1, by rw [← rk.length]; exact hc.2, ?_⟩
          have n1 : ∀ xs, HO.ins (G.cl c) dx ws ≠ .tup xs := fun _ z => nomatch z
          have n2 : ∀ ob w, HO.ins (G.cl c) dx ws ≠ .frz ob w := fun _ _ z => nomatch z
          have xa : Ext φ2 H2 φ2 (upd H2 a (.ins (G.cl c) dx (putF f.nm y ws))) := .at ha e1 n1 n2
          have em3 := em2.set (o := .ins c (putFl f v fs)) (ho := .ins (G.cl c) dx (putF f.nm y ws)) es ha e1 n1 n2 (.ins upd_same (rk.put (RV.ext x2 rv) |>.ext xa) hh (putFl_all hc.1 hall))
          exact h2 φ2 _ _ xa em3 ((rs.ext x).ext (x2.trans xa))
      · exact h2.elim
    · exact h2.elim
  · exact h2.elim
/-! ### o[i] -/
def ixO (xs : Option (List D)) (j : Int) (S : Sto) : Res D := match xs with
  | some xs => match atI xs j with
    | some x => .ok x S
    | none => .stuck
  | none => .stuck
def getI (o i : D) (S : Sto) : Res D := match o, i with
  | .tup xs, .int j => match atI xs j with
    | some x => .ok x S
    | none => .stuck
  | .str z, .int j => if z.length ≤ sizeLine then match atI z.cps.toList j with
    | some c => .ok (.str ⟨#[c]⟩) S
    | none => .stuck
    else .stuck
  | o, .int j => ixO (lstO S o) j S
  | _, _ => .stuck
theorem RVs.atI {K : PySem.W.Frag} {H : Hp} {φ : List Addr} {xs : List D} {vs : List V} (r : RVs K G H φ xs vs) {j : Int} {d : D} (h : L2.atI xs j = some d) : ∃ v, L2.atI vs j = some v ∧ RV K G H φ d v := by
  unfold L2.atI at h ⊢
  rw [← RVs.length r]
  obtain ⟨i, e1, e2⟩ := Option.bind_eq_some_iff.mp h
  obtain ⟨v, e3, r3⟩ := RVs.get r e2
  exact ⟨v, by rw [e1]; exact e3, r3⟩
theorem s_getI {K : PySem.W.Frag} : OpS K G W getI (rIx K) := by
  intro φ S σ H d1 d2 v1 v2 Q em r1 r2 h
  unfold getI at h
  split at h
  · split at h
    · rename_i x e
      cases r2
      cases r1 with
      | tup s q =>
        obtain ⟨v, ev, rv⟩ := RVs.atI q e
        exact .inr (.inl ⟨_, _, _, v, rfl, rfl, s, ev, outR.ok (R := rE K G) h em rv⟩)
    · exact h.elim
  · split at h
    · rename_i hl
      split at h
      · rename_i c e
        cases r1; cases r2
        exact .inr (.inr ⟨_, _, c, rfl, rfl, hl, e, outR.ok (R := rE K G) h em .str⟩)
      · exact h.elim
    · exact h.elim
  · unfold ixO at h
    split at h
    · rename_i xs es
      split at h
      · rename_i x e
        cases r2
        obtain ⟨a, vs, rfl, sq, rvs⟩ := lst_ok em r1 es
        obtain ⟨v, ev, rv⟩ := RVs.atI rvs e
        exact .inl ⟨_, _, _, v, rfl, rfl, sq, ev, outR.ok (R := rE K G) h em rv⟩
      · exact h.elim
    · exact h.elim
  · exact h.elim
theorem d_ix {a b : Expr} {ma mb : MEx} {pos : Pos} (ha : PE X a (wpE X.K G W ma)) (hb : PE X b (wpE X.K G W mb)) (hs : PlainIx b := by exact fun _ _ => rfl) : PE X (.Subscript a b pos) (wpE X.K G W (mOp2 getI ma mb)) :=
  pe_conv (pe_ix ix_seq ha hb hs) (op2 s_getI)
/-- o[i] = v, a list -/
def setI (o i v : D) (S : Sto) : Option Sto := match o, i with
  | .loc l, .int j => match S[l]? with
    | some (.lst xs) => match ixN xs.length j with
      | some n => some (S.set l (.lst (xs.set n v)))
      | none => none
    | _ => none
  | _, _ => none
def sSetL (mo mi mv : MEx) : MSt := fun ρ S => (mv ρ S).st ρ fun v S1 => (mo ρ S1).st ρ fun o S2 => (mi ρ S2).st ρ fun i S3 => nxO ρ (setI o i v S3)
theorem s_setL {o i value : Expr} {mo mi mv : MEx} {pos pos' : Pos} (ho : PE X o (wpE X.K G W mo)) (hi : PE X i (wpE X.K G W mi)) (hv : PE X value (wpE X.K G W mv))
    (ha : ∀ v, assign (.Subscript o i pos') X.env v = (do
      let ov ← holding [v] (eval o X.env)
      let iv ← holding [v, ov] (eval i X.env)
      standAt pos'
      holding [v, ov, iv] (setItem ov iv v)
      release [v, ov, iv] []) := by intro _; rfl)
    (hs : swapsWithSole [.Subscript o i pos'] value pos.line X.env = pure false := by rfl) (hw : swappedStores [.Subscript o i pos'] value X.env = pure none := by rfl)
    (h1 : (assignEach [.Subscript o i pos'] X.env).map (·.2) = [assign (.Subscript o i pos') X.env] := by rfl) : PS X (.Assign [.Subscript o i pos'] value pos) (wpS X.K G W (sSetL mo mi mv)) := by
  refine ps_conv (ps_asg hv (pg_sub ho hi set_list ha) hs hw h1) ?_
  rintro E σ H ⟨φ, ρ, S, em, rs, h⟩
  refine ⟨φ, ρ, S, em, rs, outR.st rs h fun v S1 φ1 y H1 x em1 rv h1 => ?_⟩
  refine ⟨φ1, ρ, S1, em1, rs.ext x, outR.st (rs.ext x) h1 fun o' S2 φ2 y2 H2 x2 em2 rv2 h2 => ?_⟩
  refine ⟨φ2, ρ, S2, em2, (rs.ext x).ext x2, outR.st ((rs.ext x).ext x2) h2 fun i' S3 φ3 y3 H3 x3 em3 rv3 h3 => ?_⟩
  unfold setI at h3
  split at h3
  · split at h3
    · rename_i l j xs es
      split at h3
      · rename_i n en
        obtain ⟨a, rfl, ha, ro⟩ := em3.at_loc es (RV.ext x3 rv2)
        obtain ⟨vs, e1, rvs⟩ := ro.lstM
        cases rv3
        refine ⟨a, vs, _, n, rfl, rfl, e1, by rw [← RVs.length rvs]; exact en, ?_⟩
        have n1 : ∀ xs, HO.lst vs ≠ .tup xs := fun _ z => nomatch z
        have n2 : ∀ ob w, HO.lst vs ≠ .frz ob w := fun _ _ z => nomatch z
        have xa : Ext φ3 H3 φ3 (upd H3 a (.lst (vs.set n y))) := .at ha e1 n1 n2
        have em4 := em3.set (o := .lst (xs.set n v)) (ho := .lst (vs.set n y)) es ha e1 n1 n2 (.lst upd_same (RVs.ext xa (RVs.set (RV.ext (x2.trans x3) rv) n rvs)))
        exact h3 φ3 _ _ xa em4 (((rs.ext x).ext x2).ext (x3.trans xa))
      · exact h3.elim
    · exact h3.elim
  · exact h3.elim
/-! ### slices -/
def optI (d : D) (S : Sto) : Res (Option Int) := match d with
  | .int i => .ok (some i) S
  | _ => .stuck
abbrev MPt := Rho → Sto → Res (Option Int)
def ptNone : MPt := fun _ S => .ok none S
def ptSome (m : MEx) : MPt := fun ρ S => (m ρ S).bind optI
def rO : Hp → List Addr → Option Int → Option Int → Prop := fun _ _ a b => a = b
theorem po_conv {e : Option Expr} {t t' : TO} (h : PO X e t) (hh : ∀ σ H Q, t' σ H Q → t σ H Q) : PO X e t' := ⟨fun pins s σ H Q I ht => h.run pins s σ H Q I (hh _ _ _ ht)⟩
theorem p_none : PO X none (wp X.K G W rO ptNone) := po_conv po_none fun σ H Q ⟨φ, ρ, S, em, rs, h⟩ => outR.ok (R := rO) h em rfl
theorem p_some {e : Expr} {m : MEx} (h : PE X e (wpE X.K G W m)) : PO X (some e) (wp X.K G W rO (ptSome m)) := by
  refine po_conv (po_some h) ?_
  rintro σ H Q ⟨φ, ρ, S, em, rs, h⟩
  refine ⟨φ, ρ, S, em, rs, h.bind fun d S1 φ1 v H1 x em1 rv h1 => ?_⟩
  cases rv with
  | int => exact ⟨_, rfl, outR.ok (R := rO) h1 em1 rfl⟩
  | _ => exact h1.elim
def cutD (xs : List D) (lo hi : Option Int) : List D := (xs.drop (HT.sIx xs.length 0 lo)).take (HT.sIx xs.length xs.length hi - HT.sIx xs.length 0 lo)
end
end MP

set_option Elab.async false
set_option linter.all false
set_option maxRecDepth 100000
set_option maxHeartbeats 2000000
namespace MP
open PySem L2
section
variable {X : Cx} {G : Ga} {W : WX} {k : Nat}
def slO (tr : Bool) (xs : Option (List D)) (lo hi : Option Int) (S : Sto) : Res D := match xs with
  | some xs => newL tr (cutD xs lo hi) S
  | none => .stuck
def slD' (tr : Bool) (o : D) (lo hi : Option Int) (S : Sto) : Res D := match o with
  | .tup xs => if HT.sIx xs.length 0 lo = 0 ∧ HT.sIx xs.length xs.length hi = xs.length then .stuck else .ok (.tup (cutD xs lo hi)) S
  | .str z => if z.length ≤ sizeLine then .ok (.str (cutS z lo hi)) S else .stuck
  | o => slO tr (lstO S o) lo hi S
def mSl' (tr : Bool) (mo : MEx) (ml mh : MPt) : MEx := fun ρ S => (mo ρ S).bind fun o S1 => (ml ρ S1).bind fun lo S2 => (mh ρ S2).bind fun hi S3 => slD' tr o lo hi S3
theorem RVs.cut {K : PySem.W.Frag} {H : Hp} {φ : List Addr} {xs : List D} {vs : List V} (r : RVs K G H φ xs vs) (lo hi : Option Int) : RVs K G H φ (cutD xs lo hi) (cutV vs lo hi) := by
  unfold cutD cutV
  rw [← RVs.length r]
  exact RVs.take _ (RVs.drop _ r)
theorem d_sl {tr : Bool} {e : Expr} {lo hi : Option Expr} {m : MEx} {ml mh : MPt} {p2 pos : Pos} (he : PE X e (wpE X.K G W m)) (hl : PO X lo (wp X.K G W rO ml)) (hh : PO X hi (wp X.K G W rO mh)) : PE X (.Subscript e (.Slice lo hi none p2) pos) (wpE X.K G W (mSl' tr m ml mh)) := by
  refine pe_conv (pe_slice (sl_list.or (sl_tup.or sl_str)) he hl hh) ?_
  rintro σ H Q ⟨φ, ρ, S, em, rs, h⟩
  refine ⟨φ, ρ, S, em, rs, h.bind fun o S1 φ1 v H1 x em1 rv h1 => ?_⟩
  refine ⟨φ1, ρ, S1, em1, rs.ext x, h1.bind fun l S2 φ2 l' H2 x2 em2 rl h2 => ?_⟩
  refine ⟨φ2, ρ, S2, em2, (rs.ext x).ext x2, h2.bind fun u S3 φ3 u' H3 x3 em3 ru h3 => ?_⟩
  cases (show l = l' from rl)
  cases (show u = u' from ru)
  have rv3 := RV.ext (x2.trans x3) rv
  unfold slD' at h3
  split at h3
  · split at h3
    · exact h3.elim
    · rename_i hn
      cases rv3 with
      | tup s q =>
        refine .inr (.inl ⟨_, _, rfl, s, by rw [← RVs.length q]; exact hn, fun p hp => ?_⟩)
        exact h3 φ3 _ _ (.other hp) (em3.other hp) (.tup (.of upd_same) (RVs.ext (.other hp) (RVs.cut q l u)))
  · split at h3
    · rename_i hl
      cases rv3
      exact .inr (.inr ⟨_, rfl, hl, outR.ok (R := rE X.K G) h3 em3 .str⟩)
    · exact h3.elim
  · unfold slO at h3
    split at h3
    · rename_i xs es
      obtain ⟨a, vs, rfl, sq, rvs⟩ := lst_ok em3 rv3 es
      exact .inl ⟨a, vs, rfl, sq, fun p hp => h3.newL em3 (RVs.cut rvs l u) hp⟩
    · exact h3.elim

/-! ### what a def promises -/
def SpM (K : PySem.W.Frag) (G : Ga) (mf : MFn) (n : Nat) : Sp := fun vs H Q E => ∃ φ S ds, Emb K G φ S H ∧ RVs K G H φ ds vs ∧ ds.length = n ∧ outR K G (fun c d _ H => E c d H) (rE K G) (mf ds S) φ [] H Q
theorem SpM.len {K : PySem.W.Frag} {mf : MFn} {n : Nat} {vs : List V} {H : Hp} {Q : VK} {E : XK} (h : SpM K G mf n vs H Q E) : vs.length = n := by
  obtain ⟨φ, S, ds, em, rv, hl, _⟩ := h
  rw [← RVs.length rv]
  exact hl
theorem outR.resig {K : PySem.W.Frag} {W' : WX} {r : Res D} {φ : List Addr} {σ σ' : St} {H : Hp} {Q : VK} (hw : ∀ c d H, W c d σ H → W' c d σ' H) (h : outR K G W (rE K G) r φ σ H Q) : outR K G W' (rE K G) r φ σ' H Q := by
  cases r with
  | ok a S => exact h
  | exc e S =>
    intro φ' H' x em
    have q := h φ' H' x em
    unfold XW at q ⊢
    cases hv : e.v with
    | none => rw [hv] at q; exact hw _ _ _ q
    | some y => rw [hv] at q; exact fun d v h1 h2 => hw _ _ _ (q d v h1 h2)
  | stuck => exact h
/-- the body's end as a def's -/
def SR.fn : SR → Res D
  | .nx _ S => .ok .non S
  | .rt d S => .ok d S
  | .xc e _ S => .exc e S
  | _ => .stuck
def fnB (N : Nat) (body : MSt) : MFn := fun ds S => (body (ds.map some ++ List.replicate (N - ds.length) none) S).fn
theorem rs_start {K : PySem.W.Frag} {φ : List Addr} {H : Hp} {N : List Str} {ds : List D} {vs : List V} (r : RVs K G H φ ds vs) : RS K G φ (ds.map some ++ List.replicate (N.length - ds.length) none) (L2.start N vs) H := by
  have hl := RVs.length r
  unfold L2.start
  refine ⟨by simp [hl], fun i d e => ?_⟩
  by_cases hi : i < ds.length
  · rw [List.getElem?_append_left (by simpa using hi), List.getElem?_map] at e
    obtain ⟨d', e1, e2⟩ := Option.map_eq_some_iff.mp e
    cases e2
    obtain ⟨v, e3, r3⟩ := RVs.get r e1
    exact ⟨v, by rw [List.getElem?_append_left (by rw [List.length_map, ← hl]; exact hi), List.getElem?_map, e3]; rfl, r3⟩
  · rw [List.getElem?_append_right (by simpa using hi), List.getElem?_replicate] at e
    split at e
    · cases e
    · cases e
section
variable {P : Program} {w : World} {K : PySem.W.Frag} {mg : Str → Option Value} {base : Heap}
/-- THE RULE for a def -/
theorem mk_fn {x qual : Str} {st : Stmt} {f : Addr} {fd : FuncData} {N ps : List Str} {k : Nat} {m : MSt} (F : Fun K x qual st f fd) (S : FnScope N ps (defScope st))
    (hbody : ∀ (cdv : Value) (A : Around) (outer : List Env) (s : Shared) (H : Hp) (E : XK),
      DX (cxOf (L2.CX P w) P w K mg base N qual (defScope st) f cdv A outer s H E) G (fun c d _ H => E c d H) k →
      PSs (cxOf (L2.CX P w) P w K mg base N qual (defScope st) f cdv A outer s H E) (defBody st) (wpS K G (fun c d _ H => E c d H) m)) :
    FnOk P w K mg base (L2.CX P w) (k + 1) f fd ps (SpM K G (fnB N.length m) ps.length) := by
  refine F.okX S (fun vs H Q E h => h.len) fun cdv A outer s H vs Q E hr h => ?_
  refine ⟨_, hbody cdv A outer s H E ⟨rfl, takes_of rfl rfl rfl rfl, passes_of rfl, hr, S.nd⟩, ?_⟩
  obtain ⟨φ, S0, ds, em, rv, hl, h⟩ := h
  refine ⟨φ, _, S0, em, rs_start rv, ?_⟩
  unfold fnB at h
  cases q : m (ds.map some ++ List.replicate (N.length - ds.length) none) S0 with
  | nx ρ S' => rw [q] at h; exact fun φ' σ' H' x em' rs' => h φ' .non H' x em' .non
  | rt d S' => rw [q] at h; exact fun φ' v H' x em' rv' => h φ' v H' x em' rv'
  | bk ρ S' => rw [q] at h; exact h.elim
  | ct ρ S' => rw [q] at h; exact h.elim
  | xc e ρ S' =>
    rw [q] at h
    intro φ' σ' H' x em' rs'
    have z := h φ' H' x em'
    unfold XW at z ⊢
    cases hv : e.v with
    | none => rw [hv] at z; exact z
    | some y => rw [hv] at z; exact z
  | stuck => rw [q] at h; exact h.elim
end
/-- how a def ends: 0 as it is, 1 what it made is left out and its value frozen, 2 a new list or dict is kept -/
noncomputable def fnZ (md : Nat) (mf : MFn) : MFn := fun ds S => match md with
  | 0 => mf ds S
  | 1 => exitR false S (mf ds S)
  | _ => exitR true S (mf ds S)
theorem SpM.exit {K : PySem.W.Frag} {md : Nat} {mf : MFn} {n : Nat} {vs : List V} {H : Hp} {Q : VK} {E : XK} (h : SpM K G (fnZ md mf) n vs H Q E) : SpM K G mf n vs H Q E := by
  obtain ⟨φ, S, ds, em, rv, hl, h⟩ := h
  refine ⟨φ, S, ds, em, rv, hl, ?_⟩
  unfold fnZ at h
  split at h
  · exact h
  · exact outR.exit em h
  · exact outR.exit em h
section
variable {P : Program} {w : World} {K : PySem.W.Frag} {mg : Str → Option Value} {base : Heap}
theorem mk_fnZ {x qual : Str} {st : Stmt} {f : Addr} {fd : FuncData} {N ps : List Str} {k : Nat} {m : MSt} (md : Nat) (F : Fun K x qual st f fd) (S : FnScope N ps (defScope st))
    (hbody : ∀ (cdv : Value) (A : Around) (outer : List Env) (s : Shared) (H : Hp) (E : XK),
      DX (cxOf (L2.CX P w) P w K mg base N qual (defScope st) f cdv A outer s H E) G (fun c d _ H => E c d H) k →
      PSs (cxOf (L2.CX P w) P w K mg base N qual (defScope st) f cdv A outer s H E) (defBody st) (wpS K G (fun c d _ H => E c d H) m)) :
    FnOk P w K mg base (L2.CX P w) (k + 1) f fd ps (SpM K G (fnZ md (fnB N.length m)) ps.length) :=
  (mk_fn F S hbody).imp fun _ _ _ _ h => h.exit
end
/-- an expression that ends so -/
noncomputable def mEx (kp : Bool) (m : MEx) : MEx := fun ρ S => exitR kp S (m ρ S)
theorem d_ex {e : Expr} {m : MEx} (kp : Bool) (h : PE X e (wpE X.K G W m)) : PE X e (wpE X.K G W (mEx kp m)) := by
  refine pe_conv h ?_
  rintro σ H Q ⟨φ, ρ, S, em, rs, h⟩
  exact ⟨φ, ρ, S, em, rs, outR.exit em h⟩
/-- a def that is called by its name -/
structure FnG (P : Program) (w : World) (K : PySem.W.Frag) (mg : Str → Option Value) (base : Heap) (G : Ga) (k : Nat) (x : Str) (mf : MFn) (n : Nat) : Prop where
  ex : ∃ f fd ps, FnOk P w K mg base (L2.CX P w) k f fd ps (SpM K G mf n) ∧ mg x = some (.ref f) ∧ PySem.W.keepIn K (.ref f) = true ∧ Binds K fd ps []
/-- a method -/
structure FnC (P : Program) (w : World) (K : PySem.W.Frag) (mg : Str → Option Value) (base : Heap) (G : Ga) (k : Nat) (c : Cl) (m : Str) (mf : MFn) (n : Nat) : Prop where
  ex : ∃ f fd ps, FnOk P w K mg base (L2.CX P w) k f fd ps (SpM K G mf n) ∧ Meth K (G.cl c) m f ∧ Binds K fd ps [] ∧ G.has c = true
/-- a class that is called -/
structure FnM (P : Program) (w : World) (K : PySem.W.Frag) (mg : Str → Option Value) (base : Heap) (G : Ga) (k : Nat) (c : Cl) (mf : MFn) (n : Nat) : Prop where
  ex : ∃ f fd ps, FnOk P w K mg base (L2.CX P w) k f fd ps (SpM K G mf n) ∧ Mk K (G.cl c) f ∧ mg c.nm = some (.ref (G.cl c)) ∧ Binds K fd ps [] ∧ G.has c = true
def mCall (n : Nat) (mf : MFn) (ms : MAr) : MEx := fun ρ S => (ms ρ S).bind fun ds S1 => if ds.length = n then mf ds S1 else .stuck
theorem d_call {x : Str} {e : Expr} {es : List Expr} {j n : Nat} {mf : MFn} {ms : MAr} {p pos : Pos} (F : FnG X.prog X.w X.K X.mg X.base G j x mf n) (d : DX X G W k) (ha : PA X (e :: es) (wpA X.K G W ms)) (hj : j ≤ k := by decide) (hg : Gl X x := by rfl) (hdb : (x == ("__debug__" : Str)) = false := by decide)
    (he : starEach (e :: es) X.env = (false, eval e X.env) :: starEach es X.env := by rfl) (hpl : (backTo pos (starEach es X.env)).any (·.1) = false := by rfl) : PE X (.Call (.Name x p) (e :: es) [] pos) (wpE X.K G W (mCall n mf ms)) := by
  obtain ⟨f, fd, ps, hF, hm, hk, hb⟩ := F.ex
  refine pe_conv (pe_callS hF (d.hr.mono hj) hg hm hk hb (fun σ => passAt d.tk σ) ha hdb he hpl) ?_
  rintro σ H Q ⟨φ, ρ, S, em, rs, h⟩
  refine ⟨φ, ρ, S, em, rs, h.bind fun ds S1 φ1 vs H1 x em1 rv h1 => ?_⟩
  split at h1
  · rename_i hl
    exact ⟨φ1, S1, ds, em1, rv, hl, h1.resig fun _ _ _ z => z⟩
  · exact h1.elim
/-- nothing is raised -/
def noX {α : Type} : Res α → Res α
  | .exc _ _ => .stuck
  | r => r
abbrev W0 : WX := fun _ _ _ _ => False
theorem outR.noX {K : PySem.W.Frag} {r : Res D} {φ : List Addr} {σ : St} {H : Hp} {Q : VK} (h : outR K G W (rE K G) (MP.noX r) φ σ H Q) : outR K G (fun c d _ H => E0 c d H) (rE K G) r φ [] H Q := by
  cases r with
  | ok a S => exact h
  | exc e S => exact h.elim
  | stuck => exact h
def mCall0 (mf : MFn) : MEx := fun _ S => noX (mf [] S)
theorem d_call0 {x : Str} {j : Nat} {mf : MFn} {p pos : Pos} (F : FnG X.prog X.w X.K X.mg X.base G j x mf 0) (d : DX X G W k) (hj : j ≤ k := by decide) (hg : Gl X x := by rfl) (hdb : (x == ("__debug__" : Str)) = false := by decide) : PE X (.Call (.Name x p) [] [] pos) (wpE X.K G W (mCall0 mf)) := by
  obtain ⟨f, fd, ps, hF, hm, hk, hb⟩ := F.ex
  refine pe_conv (pe_call0 hF (d.hr.mono hj) hg hm hk hb .nil passL hdb) ?_
  rintro σ H Q ⟨φ, ρ, S, em, rs, h⟩
  exact ⟨φ, S, [], em, .nil, rfl, h.noX⟩
def tMethS (C : Addr) (m : Str) (sp : Sp) (E : St → XK) (ta : TE) (t : TA) : TE := fun σ H Q => ta σ H fun x H1 => ∃ a dx fs, x = .ref a ∧ H1 a = some (.ins C dx fs) ∧ fs.lookup m = none ∧ t σ H1 fun vs H2 => sp (x :: vs) H2 Q (E σ)
theorem pe_methS {CX : CXT} {C f : Addr} {fd : FuncData} {ps : List Str} {sp : Sp} {E : St → XK} {m : Str} {o e : Expr} {es : List Expr} {ta : TE} {t : TA} {apos pos : Pos} {pl : Sem Bool} (he : PE X o ta) (c : Cls X.K C) (hm : Meth X.K C m f) (F : FnOk X.prog X.w X.K X.mg X.base CX k f fd ps sp) (hr : Room k X.A) (hb : Binds X.K fd ps [])
    (hx : ∀ σ, PassesAt CX X σ (E σ)) (ha : PA X (e :: es) t)
    (hst : starEach (e :: es) X.env = (false, eval e X.env) :: starEach es X.env := by rfl) (hpl : (backTo pos (starEach es X.env)).any (·.1) = false := by rfl)
    (ht : eval (.Call (.Attribute o m apos) (e :: es) [] pos) X.env = (do
      let ov ← eval o X.env
      standAt apos.atName
      let (f, first) ← holding [ov] (getMethod ov m pl)
      callWith pos f first (backTo pos (starEach (e :: es) X.env)) (backToKw pos (keywordEach [] X.env))) := by rfl) :
    PE X (.Call (.Attribute o m apos) (e :: es) [] pos) (tMethS C m sp E ta t) := by
  refine ⟨fun pins s σ H Q I h => ?_⟩
  refine PySem.W.methodCall_KW (pl := pl) (thn (he.run pins s σ H _ I h) fun u s1 ⟨x, H1, I1, rx, a, dx, fs, ex, ea, l, q⟩ => ?_) ht
  subst ex
  obtain rfl : u = Value.ref a := rx
  refine getmeth_ok I1 ea c hm l ?_
  refine PySem.W.callWith_K (first := [.ref a]) (h₀ := X.base) I.ok.mod.kin hm.kp (thn (ha.run pos pins s1 σ H1 _ I1 q) fun us s2 ⟨vs, H2, I2, r, q2⟩ => ⟨I2.kIn, ?_⟩) hst hpl
  exact run_fnS (us := .ref a :: us) (vs := .ref a :: vs) F hr hb (hx σ) I2 (.cons rfl r) q2
def selfC (c : Cl) (d : D) (S : Sto) : Res D := match d with
  | .vo c' _ _ => if c' = c then .ok d S else .stuck
  | .loc l => match S[l]? with
    | some (.ins c' _) => if c' = c then .ok d S else .stuck
    | _ => .stuck
  | _ => .stuck
def mMeth (c : Cl) (n : Nat) (mf : MFn) (mo : MEx) (ms : MAr) : MEx := fun ρ S => (mo ρ S).bind fun d S1 => (selfC c d S1).bind fun _ _ => (ms ρ S1).bind fun ds S2 => if ds.length + 1 = n then mf (d :: ds) S2 else .stuck
def mMeth0 (c : Cl) (mf : MFn) (mo : MEx) : MEx := fun ρ S => (mo ρ S).bind fun d S1 => (selfC c d S1).bind fun _ _ => noX (mf [d] S1)
/-- the names of a class's fields are no method's -/
def noFld (c : Cl) (m : Str) : Bool :=
  [Fl.many, .cells, .inside, .row, .last_words, .named, .made, .line, .heap, .part, .to_go, .gone, .rooms, .memory, .marking, .fence, .rows, .phase, .room].all fun f => !okF c f || f.nm != m
theorem noFld_ok {c : Cl} {m : Str} (h : noFld c m = true) (f : Fl) (hf : okF c f = true) : f.nm ≠ m := by
  have hm : f ∈ [Fl.many, .cells, .inside, .row, .last_words, .named, .made, .line, .heap, .part, .to_go, .gone, .rooms, .memory, .marking, .fence, .rows, .phase, .room] := by cases f <;> decide
  have q := List.all_eq_true.mp h f hm
  rw [hf] at q
  simpa using q
theorem self_ok {K : PySem.W.Frag} {c : Cl} {d : D} {S : Sto} {φ : List Addr} {H : Hp} {v : V} {α : Type} {f : Res α} {m : Str} (hn : noFld c m = true) (em : Emb K G φ S H) (r : RV K G H φ d v)
    {R : Hp → List Addr → α → V → Prop} {σ : St} {Q : VK} (h : outR K G W R ((selfC c d S).bind fun _ _ => f) φ σ H Q) : outR K G W R f φ σ H Q ∧ ∃ a dx fs, v = .ref a ∧ H a = some (.ins (G.cl c) dx fs) ∧ fs.lookup m = none := by
  unfold selfC at h
  split at h
  · rename_i c' fs xs
    split at h
    · rename_i hc
      subst hc
      cases r with
      | @vo _ _ _ vs a dx na e1 hh e rr hall hp =>
        exact ⟨h, a, _, _, rfl, e1, (RKs.zip e rr).nolook fun f d hm => noFld_ok hn f (List.all_eq_true.mp hall _ (List.of_mem_zip hm).1)⟩
    · exact h.elim
  · split at h
    · rename_i l c' fs es
      split at h
      · rename_i hc
        subst hc
        obtain ⟨a, rfl, ha, ro⟩ := em.at_loc es r
        cases ro with
        | ins e1 rk hh hall => exact ⟨h, a, _, _, rfl, e1, rk.nolook fun f d hm => noFld_ok hn f (List.all_eq_true.mp hall _ hm)⟩
      · exact h.elim
    · exact h.elim
  · exact h.elim
theorem d_meth {c : Cl} {m : Str} {o e : Expr} {es : List Expr} {j n : Nat} {mf : MFn} {mo : MEx} {ms : MAr} {apos pos : Pos} {pl : Sem Bool} (F : FnC X.prog X.w X.K X.mg X.base G j c m mf n) (g : Gok X.K G) (d : DX X G W k) (he : PE X o (wpE X.K G W mo)) (ha : PA X (e :: es) (wpA X.K G W ms)) (hj : j ≤ k := by decide) (hn : noFld c m = true := by decide +kernel)
    (hst : starEach (e :: es) X.env = (false, eval e X.env) :: starEach es X.env := by rfl) (hpl : (backTo pos (starEach es X.env)).any (·.1) = false := by rfl)
    (ht : eval (.Call (.Attribute o m apos) (e :: es) [] pos) X.env = (do
      let ov ← eval o X.env
      standAt apos.atName
      let (f, first) ← holding [ov] (getMethod ov m pl)
      callWith pos f first (backTo pos (starEach (e :: es) X.env)) (backToKw pos (keywordEach [] X.env))) := by rfl) :
    PE X (.Call (.Attribute o m apos) (e :: es) [] pos) (wpE X.K G W (mMeth c n mf mo ms)) := by
  obtain ⟨f, fd, ps, hF, hm, hb, hh⟩ := F.ex
  refine pe_conv (pe_methS (pl := pl) he (g.cls c hh) hm hF (d.hr.mono hj) hb (fun σ => passAt d.tk σ) ha hst hpl ht) ?_
  rintro σ H Q ⟨φ, ρ, S, em, rs, h⟩
  refine ⟨φ, ρ, S, em, rs, h.bind fun o' S1 φ1 v H1 x em1 rv h1 => ?_⟩
  obtain ⟨h2, a, dx, fs, e1, e2, e3⟩ := self_ok hn em1 rv h1
  refine ⟨a, dx, fs, e1, e2, e3, φ1, ρ, S1, em1, rs.ext x, h2.bind fun ds S2 φ2 vs H2 x2 em2 rvs h3 => ?_⟩
  split at h3
  · rename_i hl
    exact ⟨φ2, S2, o' :: ds, em2, .cons (RV.ext x2 rv) rvs, hl, h3.resig fun _ _ _ z => z⟩
  · exact h3.elim
theorem d_meth0 {c : Cl} {m : Str} {o : Expr} {j : Nat} {mf : MFn} {mo : MEx} {apos pos : Pos} {pl : Sem Bool} (F : FnC X.prog X.w X.K X.mg X.base G j c m mf 1) (g : Gok X.K G) (d : DX X G W k) (he : PE X o (wpE X.K G W mo)) (hj : j ≤ k := by decide) (hn : noFld c m = true := by decide +kernel)
    (ht : eval (.Call (.Attribute o m apos) [] [] pos) X.env = (do
      let ov ← eval o X.env
      standAt apos.atName
      let (f, first) ← holding [ov] (getMethod ov m pl)
      callWith pos f first (backTo pos (starEach [] X.env)) (backToKw pos (keywordEach [] X.env))) := by rfl) :
    PE X (.Call (.Attribute o m apos) [] [] pos) (wpE X.K G W (mMeth0 c mf mo)) := by
  obtain ⟨f, fd, ps, hF, hm, hb, hh⟩ := F.ex
  refine pe_conv (pe_meth0 (pl := pl) he (g.cls c hh) hm hF (d.hr.mono hj) hb .nil passL ht) ?_
  rintro σ H Q ⟨φ, ρ, S, em, rs, h⟩
  refine ⟨φ, ρ, S, em, rs, h.bind fun o' S1 φ1 v H1 x em1 rv h1 => ?_⟩
  obtain ⟨h2, a, dx, fs, e1, e2, e3⟩ := self_ok hn em1 rv h1
  exact ⟨a, dx, fs, e1, e2, e3, φ1, S1, [o'], em1, .cons rv .nil, rfl, h2.noX⟩
/-- a class called -/
def mkEnd (l : Nat) : Res D → Res D
  | .ok .non S => .ok (.loc l) S
  | _ => .stuck
def mMake (c : Cl) (n : Nat) (mf : MFn) (ms : MAr) : MEx := fun ρ S => (ms ρ S).bind fun ds S1 => if ds.length + 1 = n then mkEnd S1.length (mf (.loc S1.length :: ds) (S1 ++ [.ins c []])) else .stuck
theorem make_ok {K : PySem.W.Frag} {c : Cl} {n : Nat} {mf : MFn} {φ : List Addr} {S : Sto} {H : Hp} {σ : St} {Q : VK} {ds : List D} {vs : List V} (hh : G.has c = true) (em : Emb K G φ S H) (rv : RVs K G H φ ds vs) (hl : ds.length + 1 = n)
    (h : outR K G W (rE K G) (mkEnd S.length (mf (.loc S.length :: ds) (S ++ [.ins c []]))) φ σ H Q) (x dx : Addr) (nx : H x = none) (ndx : H dx = none) (ne : dx ≠ x) :
    SpM K G mf n (.ref x :: vs) (upd (upd H dx (.own x)) x (.ins (G.cl c) dx [])) (fun v H2 => v = .non ∧ Q (.ref x) H2) E0 := by
  have n2 : (upd H dx (.own x)) x = none := by rw [upd_ne ne.symm]; exact nx
  have x1 : Ext φ H φ (upd H dx (.own x)) := .other ndx
  have x2 : Ext φ (upd H dx (.own x)) (φ ++ [x]) (upd (upd H dx (.own x)) x (.ins (G.cl c) dx [])) := .new n2
  have em1 : Emb K G φ S (upd H dx (.own x)) := em.other ndx
  have em2 := em1.new (o := .ins c []) (ho := .ins (G.cl c) dx []) n2 (.ins upd_same .nil hh rfl)
  have hloc : (φ ++ [x])[S.length]? = some x := by rw [← em.len]; simp
  refine ⟨φ ++ [x], S ++ [.ins c []], .loc S.length :: ds, em2, .cons (.loc hloc) (RVs.ext (x1.trans x2) rv), hl, ?_⟩
  cases q : mf (.loc S.length :: ds) (S ++ [.ins c []]) with
  | ok d S' =>
    rw [q] at h
    cases d with
    | non =>
      intro φ' v H' x3 em3 r3
      cases r3
      exact ⟨rfl, h φ' (.ref x) H' ((x1.trans x2).trans x3) em3 (.loc (pre_get x3.1 hloc))⟩
    | _ => exact h.elim
  | exc e S' => rw [q] at h; exact h.elim
  | stuck => rw [q] at h; exact h.elim
theorem d_make {c : Cl} {x : Str} {e : Expr} {es : List Expr} {j n : Nat} {mf : MFn} {ms : MAr} {p pos : Pos} (F : FnM X.prog X.w X.K X.mg X.base G j c mf n) (d : DX X G W k) (ha : PA X (e :: es) (wpA X.K G W ms)) (hx : c.nm = x := by rfl) (hj : j + 1 ≤ k := by decide) (hg : Gl X x := by rfl) (hdb : (x == ("__debug__" : Str)) = false := by decide)
    (he : starEach (e :: es) X.env = (false, eval e X.env) :: starEach es X.env := by rfl) (hpl : (backTo pos (starEach es X.env)).any (·.1) = false := by rfl) : PE X (.Call (.Name x p) (e :: es) [] pos) (wpE X.K G W (mMake c n mf ms)) := by
  subst hx
  obtain ⟨f, fd, ps, hF, hM, hm, hb, hh⟩ := F.ex
  refine pe_conv (pe_make hM hF (d.hr.mono hj) hg hm hb .nil passL ha hdb he hpl) ?_
  rintro σ H Q ⟨φ, ρ, S, em, rs, h⟩
  refine ⟨φ, ρ, S, em, rs, h.bind fun ds S1 φ1 vs H1 x em1 rv h1 => ?_⟩
  split at h1
  · rename_i hl
    intro x dx nx ndx ne
    rw [List.append_nil]
    exact make_ok hh em1 rv hl h1 x dx nx ndx ne
  · exact h1.elim
theorem d_make0 {c : Cl} {x : Str} {j n : Nat} {mf : MFn} {p pos : Pos} (F : FnM X.prog X.w X.K X.mg X.base G j c mf n) (d : DX X G W k) (hx : c.nm = x := by rfl) (hj : j + 1 ≤ k := by decide) (hg : Gl X x := by rfl) (hdb : (x == ("__debug__" : Str)) = false := by decide) :
    PE X (.Call (.Name x p) [] [] pos) (wpE X.K G W (mMake c n mf aNil)) := by
  subst hx
  obtain ⟨f, fd, ps, hF, hM, hm, hb, hh⟩ := F.ex
  refine pe_conv (pe_make0 hM hF (d.hr.mono hj) hg hm hb .nil passL hdb) ?_
  rintro σ H Q ⟨φ, ρ, S, em, rs, h⟩
  have h1 : outR X.K G W (rE X.K G) (if ([] : List D).length + 1 = n then mkEnd S.length (mf (.loc S.length :: []) (S ++ [.ins c []])) else .stuck) φ σ H Q := h
  split at h1
  · rename_i hl
    exact fun x dx nx ndx ne => make_ok hh em .nil hl h1 x dx nx ndx ne
  · exact h1.elim
end
end MP

set_option Elab.async false
set_option linter.all false
set_option maxRecDepth 100000
set_option maxHeartbeats 2000000
namespace MP
open PySem L2
section
variable {X : Cx} {G : Ga} {W : WX} {k : Nat}
/-! ### statements -/
def sNil : MSt := fun ρ S => .nx ρ S
def sSeq (a b : MSt) : MSt := fun ρ S => match a ρ S with
  | .nx ρ' S' => b ρ' S'
  | r => r
theorem ss_nil : PSs X [] (wpS X.K G W sNil) := by
  refine pss_conv pss_nil ?_
  rintro D σ H ⟨φ, ρ, S, em, rs, h⟩
  exact h φ σ H .refl em rs
theorem seq_ok {K : PySem.W.Frag} {a b : MSt} {D : Ends} {σ : St} {H : Hp} (h : wpS K G W (sSeq a b) D σ H) : wpS K G W a { D with nx := wpS K G W b D } σ H := by
  obtain ⟨φ, ρ, S, em, rs, h⟩ := h
  refine ⟨φ, ρ, S, em, rs, ?_⟩
  unfold sSeq at h
  cases q : a ρ S with
  | nx ρ' S' => rw [q] at h; exact fun φ' σ' H' x em' rs' => ⟨φ', ρ', S', em', rs', h.from x⟩
  | rt d S' => rw [q] at h; exact h
  | bk ρ' S' => rw [q] at h; exact h
  | ct ρ' S' => rw [q] at h; exact h
  | xc e ρ' S' => rw [q] at h; exact h
  | stuck => rw [q] at h; exact h
theorem ss_cons {st : Stmt} {rest : List Stmt} {a b : MSt} (h1 : PS X st (wpS X.K G W a)) (h2 : PSs X rest (wpS X.K G W b)) : PSs X (st :: rest) (wpS X.K G W (sSeq a b)) :=
  pss_conv (pss_cons h1 h2) fun D σ H h => seq_ok h
theorem ss_one {st : Stmt} {a : MSt} (h1 : PS X st (wpS X.K G W a)) : PSs X [st] (wpS X.K G W a) := pss_one h1
/-- dead slots are forgotten -/
def clr : List Nat → Rho → Rho
  | [], ρ => ρ
  | i :: is, ρ => (clr is ρ).set i none
def sClr (is : List Nat) (a : MSt) : MSt := fun ρ S => match a ρ S with
  | .nx ρ' S' => .nx (clr is ρ') S'
  | r => r
theorem RS.clr {K : PySem.W.Frag} {φ : List Addr} {ρ : Rho} {σ : St} {H : Hp} (h : RS K G φ ρ σ H) : ∀ is : List Nat, RS K G φ (MP.clr is ρ) σ H
  | [] => h
  | i :: is => by
    have q := RS.clr h is
    unfold MP.clr
    refine ⟨by simp [q.len], fun j d e => ?_⟩
    by_cases hj : i = j
    · subst hj
      rw [List.getElem?_set] at e
      simp at e
    · rw [List.getElem?_set_ne hj] at e
      exact q.at_ j d e
theorem s_clr {st : Stmt} {a : MSt} (is : List Nat) (h : PS X st (wpS X.K G W a)) : PS X st (wpS X.K G W (sClr is a)) := by
  refine ps_conv h ?_
  rintro D σ H ⟨φ, ρ, S, em, rs, h⟩
  refine ⟨φ, ρ, S, em, rs, ?_⟩
  unfold sClr at h
  cases q : a ρ S with
  | nx ρ' S' => rw [q] at h; exact fun φ' σ' H' x em' rs' => h φ' σ' H' x em' (rs'.clr is)
  | rt d S' => rw [q] at h; exact h
  | bk ρ' S' => rw [q] at h; exact h
  | ct ρ' S' => rw [q] at h; exact h
  | xc e ρ' S' => rw [q] at h; exact h
  | stuck => rw [q] at h; exact h
/-! ### a part of a body that leaves out what it made; what the names hold of it becomes a value -/
def fzSlot (S : Sto) (n : Nat) (o : Option D) : Option (Option D) := match o with
  | some d => match fzD S n 8 d with
    | some d' => some (some d')
    | none => none
  | none => some none
def fzRho (S : Sto) (n : Nat) (ρ : Rho) : Option Rho := optAll (fzSlot S n) ρ
def scpE (S' : Sto) (n : Nat) (o : Option Rho) (k : Rho → Sto → SR) : SR := match o with
  | some ρ => k ρ (S'.take n)
  | none => .stuck
open Classical in
noncomputable def scpR (S : Sto) (r : SR) : SR := match r with
  | .nx ρ S' => if Cld S S' then scpE S' S.length (fzRho S' S.length ρ) .nx else .stuck
  | .ct ρ S' => if Cld S S' then scpE S' S.length (fzRho S' S.length ρ) .ct else .stuck
  | .bk ρ S' => if Cld S S' then scpE S' S.length (fzRho S' S.length ρ) .bk else .stuck
  | r => r
noncomputable def sScp (a : MSt) : MSt := fun ρ S => scpR S (a ρ S)
theorem fz_rho {K : PySem.W.Frag} {φ : List Addr} {S : Sto} {H : Hp} (em : Emb K G φ S H) (n : Nat) : ∀ {ρ ρ' : Rho} {σ : St}, RS K G φ ρ σ H → fzRho S n ρ = some ρ' → RS K G (φ.take n) ρ' σ H := by
  intro ρ ρ' σ rs e
  have key : ∀ {ρ ρ' : Rho}, optAll (fzSlot S n) ρ = some ρ' → ρ'.length = ρ.length ∧ ∀ (i : Nat) d', ρ'[i]? = some (some d') → ∃ d, ρ[i]? = some (some d) ∧ fzD S n 8 d = some d' := by
    intro ρ
    induction ρ with
    | nil => intro ρ' e; cases e; exact ⟨rfl, fun i d' h => by simp at h⟩
    | cons o ρ ih =>
      intro ρ' e
      unfold optAll at e
      split at e
      · rename_i y ys e1 e2
        cases e
        obtain ⟨h1, h2⟩ := ih e2
        refine ⟨by simp [h1], fun i d' h => ?_⟩
        cases i with
        | zero =>
          simp at h
          subst h
          unfold fzSlot at e1
          split at e1
          · rename_i d
            split at e1
            · rename_i d2 ed
              cases e1
              exact ⟨d, by simp, ed⟩
            · cases e1
          · cases e1
        | succ i =>
          rw [List.getElem?_cons_succ] at h ⊢
          exact h2 i d' h
      · cases e
  obtain ⟨h1, h2⟩ := key e
  refine ⟨by rw [h1, rs.len], fun i d' h => ?_⟩
  obtain ⟨d, e1, e2⟩ := h2 i d' h
  obtain ⟨v, a, b⟩ := rs.at_ i d e1
  exact ⟨v, a, fz_ok em n 8 d v d' b e2⟩
theorem scp_ok {K : PySem.W.Frag} {r : SR} {φ : List Addr} {S : Sto} {H : Hp} {D : Ends} (em : Emb K G φ S H) (h : outS K G W (scpR S r) φ H D) : outS K G W r φ H D := by
  have fin : ∀ {ρ ρ2 : Rho} {S' : Sto} {Q : St → Hp → Prop}, Cld S S' → fzRho S' S.length ρ = some ρ2 → (∀ φ' σ' H', Ext φ H φ' H' → Emb K G φ' (S'.take S.length) H' → RS K G φ' ρ2 σ' H' → Q σ' H') → ∀ φ' σ' H', Ext φ H φ' H' → Emb K G φ' S' H' → RS K G φ' ρ σ' H' → Q σ' H' := by
    intro ρ ρ2 S' Q c ez h φ' σ' H' x em' rs'
    obtain ⟨e1, e2, e3⟩ := em.cut x em' c
    have := fz_rho em' S.length rs' ez
    rw [e2] at this
    exact h φ σ' H' e3 e1 this
  cases r with
  | nx ρ S' =>
    simp only [scpR] at h
    split at h
    · rename_i c
      unfold scpE at h
      split at h
      · rename_i ρ2 ez; exact fin c ez h
      · exact h.elim
    · exact h.elim
  | ct ρ S' =>
    simp only [scpR] at h
    split at h
    · rename_i c
      unfold scpE at h
      split at h
      · rename_i ρ2 ez; exact fin c ez h
      · exact h.elim
    · exact h.elim
  | bk ρ S' =>
    simp only [scpR] at h
    split at h
    · rename_i c
      unfold scpE at h
      split at h
      · rename_i ρ2 ez; exact fin c ez h
      · exact h.elim
    · exact h.elim
  | rt d S' => exact h
  | xc e ρ S' => exact h
  | stuck => exact h
theorem s_scp {st : Stmt} {a : MSt} (h : PS X st (wpS X.K G W a)) : PS X st (wpS X.K G W (sScp a)) := by
  refine ps_conv h ?_
  rintro D σ H ⟨φ, ρ, S, em, rs, h⟩
  exact ⟨φ, ρ, S, em, rs, scp_ok em h⟩
theorem ss_scp {st : List Stmt} {a : MSt} (h : PSs X st (wpS X.K G W a)) : PSs X st (wpS X.K G W (sScp a)) := by
  refine pss_conv h ?_
  rintro D σ H ⟨φ, ρ, S, em, rs, h⟩
  exact ⟨φ, ρ, S, em, rs, scp_ok em h⟩
/-- the first statements of a block, whatever comes behind -/
def PB (X : Cx) (sts : List Stmt) (t : TS) : Prop := ∀ rest u, PSs X rest u → PSs X (sts ++ rest) (tSeq t u)
theorem bb_one {st : Stmt} {a : MSt} (h : PS X st (wpS X.K G W a)) : PB X [st] (wpS X.K G W a) := fun _ _ hr => pss_cons h hr
theorem bb_cons {st : Stmt} {sts : List Stmt} {a b : MSt} (h : PS X st (wpS X.K G W a)) (hb : PB X sts (wpS X.K G W b)) : PB X (st :: sts) (wpS X.K G W (sSeq a b)) := fun rest u hr =>
  pss_conv (pss_cons h (hb rest u hr)) fun D σ H z => seq_ok z
theorem bb_scp {sts : List Stmt} {a : MSt} (h : PB X sts (wpS X.K G W a)) : PB X sts (wpS X.K G W (sScp a)) := fun rest u hr =>
  pss_conv (h rest u hr) fun D σ H ⟨φ, ρ, S, em, rs, z⟩ => ⟨φ, ρ, S, em, rs, scp_ok em z⟩
theorem ss_blk (n : Nat) {sts : List Stmt} {a b : MSt} (h : PB X (sts.take n) (wpS X.K G W a)) (hr : PSs X (sts.drop n) (wpS X.K G W b)) : PSs X sts (wpS X.K G W (sSeq a b)) := by
  have := h _ _ hr
  rw [List.take_append_drop] at this
  exact pss_conv this fun D σ H z => seq_ok z
theorem bb_blk (n : Nat) {sts : List Stmt} {a b : MSt} (h : PB X (sts.take n) (wpS X.K G W a)) (hr : PB X (sts.drop n) (wpS X.K G W b)) : PB X sts (wpS X.K G W (sSeq a b)) := fun rest u hu => by
  have := h _ _ (hr rest u hu)
  rw [← List.append_assoc, List.take_append_drop] at this
  exact pss_conv this fun D σ H z => seq_ok z
theorem ss_ofB {sts : List Stmt} {a : MSt} (h : PB X sts (wpS X.K G W a)) : PSs X sts (wpS X.K G W a) := by
  have := h [] _ pss_nil
  rw [List.append_nil] at this
  exact this
def sSet (i : Nat) (m : MEx) : MSt := fun ρ S => (m ρ S).st ρ fun d S1 => .nx (ρ.set i (some d)) S1
theorem s_set {i : Nat} {x : Str} {e : Expr} {m : MEx} {pos pos' : Pos} (d : DX X G W k) (he : PE X e (wpE X.K G W m)) (hi : X.N[i]? = some x := by rfl) (hx : Loc X.env.scope x := by first | exact Or.inl rfl | exact Or.inr rfl)
    (hs : swapsWith e (some (.Name x pos')) pos.line X.env = pure false := by rfl) (hf : X.fn x = true ∨ X.env.scope.names.lookup x = some .local := by first | exact .inl rfl | exact .inr rfl) : PS X (.Assign [.Name x pos'] e pos) (wpS X.K G W (sSet i m)) := by
  refine ps_conv (ps_set d.nd hi hx he hs hf) ?_
  rintro D σ H ⟨φ, ρ, S, em, rs, h⟩
  refine ⟨φ, ρ, S, em, rs, outR.st rs h fun v S1 φ1 y H1 x em1 rv h1 => ?_⟩
  exact h1 φ1 _ H1 .refl em1 ((rs.ext x).set i rv)
def sExpr (m : MEx) : MSt := fun ρ S => (m ρ S).st ρ fun _ S1 => .nx ρ S1
theorem s_expr {e : Expr} {m : MEx} {pos : Pos} (he : PE X e (wpE X.K G W m)) (hs : swapsWith e none pos.line X.env = pure false := by rfl) : PS X (.Expr e pos) (wpS X.K G W (sExpr m)) := by
  refine ps_conv (ps_expr he hs) ?_
  rintro D σ H ⟨φ, ρ, S, em, rs, h⟩
  refine ⟨φ, ρ, S, em, rs, outR.st rs h fun v S1 φ1 y H1 x em1 rv h1 => ?_⟩
  exact h1 φ1 σ H1 .refl em1 (rs.ext x)
def sRet (m : MEx) : MSt := fun ρ S => (m ρ S).st ρ fun d S1 => .rt d S1
theorem s_ret {e : Expr} {m : MEx} {pos : Pos} (he : PE X e (wpE X.K G W m)) : PS X (.Return (some e) pos) (wpS X.K G W (sRet m)) := by
  refine ps_conv (ps_ret he) ?_
  rintro D σ H ⟨φ, ρ, S, em, rs, h⟩
  refine ⟨φ, ρ, S, em, rs, outR.st rs h fun v S1 φ1 y H1 x em1 rv h1 => ?_⟩
  exact h1 φ1 y H1 .refl em1 rv
def sRetN : MSt := fun _ S => .rt .non S
theorem s_retN {pos : Pos} : PS X (.Return none pos) (wpS X.K G W sRetN) := by
  refine ps_conv ps_retN ?_
  rintro D σ H ⟨φ, ρ, S, em, rs, h⟩
  exact h φ .non H .refl em .non
def sIf (c : MTs) (a b : MSt) : MSt := fun ρ S => (c ρ S).st ρ fun t S1 => if t = true then a ρ S1 else b ρ S1
theorem s_if {c : Expr} {as bs : List Stmt} {mc : MTs} {a b : MSt} {pos : Pos} (hc : PT X c (wpT X.K G W mc)) (ha : PSs X as (wpS X.K G W a)) (hb : PSs X bs (wpS X.K G W b)) : PS X (.If c as bs pos) (wpS X.K G W (sIf mc a b)) := by
  refine ps_conv (ps_if hc ha hb) ?_
  rintro D σ H ⟨φ, ρ, S, em, rs, h⟩
  refine ⟨φ, ρ, S, em, rs, outR.st rs h fun t S1 φ1 t' H1 x em1 rv h1 => ?_⟩
  cases (show t = t' from rv)
  cases t with
  | true => exact ⟨φ1, ρ, S1, em1, rs.ext x, h1⟩
  | false => exact ⟨φ1, ρ, S1, em1, rs.ext x, h1⟩
theorem s_pass {pos : Pos} : PS X (.Pass pos) (wpS X.K G W sNil) := ps_conv ps_pass fun D σ H ⟨φ, ρ, S, em, rs, h⟩ => h φ σ H .refl em rs
def sBrk : MSt := fun ρ S => .bk ρ S
def sCont : MSt := fun ρ S => .ct ρ S
theorem s_break {pos : Pos} : PS X (.Break pos) (wpS X.K G W sBrk) := ps_conv ps_break fun D σ H ⟨φ, ρ, S, em, rs, h⟩ => h φ σ H .refl em rs
theorem s_continue {pos : Pos} : PS X (.Continue pos) (wpS X.K G W sCont) := ps_conv ps_continue fun D σ H ⟨φ, ρ, S, em, rs, h⟩ => h φ σ H .refl em rs
/-- never reached -/
def sNev : MSt := fun _ _ => .stuck
theorem s_never {st : Stmt} : PS X st (wpS X.K G W sNev) := ⟨fun _ _ _ _ _ _ ⟨_, _, _, _, _, h⟩ => h.elim⟩
def sAug (i : Nat) (f : D → D → Sto → Res D) (m : MEx) : MSt := fun ρ S => match ρ[i]? with
  | some (some x) => (m ρ S).st ρ fun y S1 => (f x y S1).st ρ fun z S2 => .nx (ρ.set i (some z)) S2
  | _ => .stuck
theorem s_aug {i : Nat} {x : Str} {e : Expr} {m : MEx} {op : Operator} {f : D → D → Sto → Res D} {r : R2} {pos pos' : Pos} (d : DX X G W k) (ho : PIp X op r) (hs : OpS X.K G W f r) (he : PE X e (wpE X.K G W m)) (hi : X.N[i]? = some x := by rfl) (hx : Loc X.env.scope x := by first | exact Or.inl rfl | exact Or.inr rfl)
    (hf : X.fn x = true ∨ X.env.scope.names.lookup x = some .local := by first | exact .inl rfl | exact .inr rfl) : PS X (.AugAssign (.Name x pos') op e pos) (wpS X.K G W (sAug i f m)) := by
  refine ps_conv (ps_aug d.nd hi hx he ho hf) ?_
  rintro D σ H ⟨φ, ρ, S, em, rs, h⟩
  unfold sAug at h
  split at h
  · rename_i x' e1
    obtain ⟨v, ev, rv⟩ := rs.at_ i x' e1
    refine ⟨v, ev, φ, ρ, S, em, rs, outR.st rs h fun y S1 φ1 y' H1 x1 em1 ry h1 => ?_⟩
    refine hs φ1 S1 σ H1 x' y v y' _ em1 (RV.ext x1 rv) ry (outR.st (rs.ext x1) h1 fun z S2 φ2 z' H2 x2 em2 rz h2 => ?_)
    exact h2 φ2 _ H2 .refl em2 (((rs.ext x1).ext x2).set i rz)
  · exact h.elim
theorem ip_addU : PIp X .Add (rI0 fun i j => .int (i + j)) := fun pins s σ H x y v u Q I r1 r2 h => ip_add pins s σ H x y v u Q I r1 r2 h
theorem ip_subU : PIp X .Sub (rI0 fun i j => .int (i - j)) := fun pins s σ H x y v u Q I r1 r2 h => ip_sub pins s σ H x y v u Q I r1 r2 h
def addI (i j : Int) : Option Int := some (i + j)
theorem s_addI {K : PySem.W.Frag} : OpS K G W (intOp addI) (rI0 fun i j => .int (i + j)) := s_int0 fun _ _ _ e => (Option.some.inj e).symm
/-! ### targets: a name, or names of a tuple's (a list's) items -/
inductive Tg where
  | nm (i : Nat)
  | tp (is : List Nat)
def setAll (σ : St) : List Nat → List V → St
  | i :: is, v :: vs => setAll (σ.set i (some v)) is vs
  | _, _ => σ
def setAllM (ρ : Rho) : List Nat → List D → Rho
  | i :: is, v :: vs => setAllM (ρ.set i (some v)) is vs
  | _, _ => ρ
theorem RS.setAll {K : PySem.W.Frag} {φ : List Addr} {H : Hp} : ∀ {is : List Nat} {ρ : Rho} {σ : St} {ds : List D} {vs : List V}, RS K G φ ρ σ H → RVs K G H φ ds vs → RS K G φ (setAllM ρ is ds) (MP.setAll σ is vs) H
  | [], _, _, _, _, h, .nil => h
  | [], _, _, _, _, h, .cons _ _ => h
  | _ :: _, _, _, _, _, h, .nil => h
  | i :: is, ρ, σ, _, _, h, .cons a b => by
    show RS K G φ (setAllM (ρ.set i _) is _) (MP.setAll (σ.set i _) is _) H
    exact RS.setAll (h.set i a) b
def gTg (K : PySem.W.Frag) : Tg → TG
  | .nm i => gName i
  | .tp is => fun v σ H Q => ∃ a xs, v = .ref a ∧ (SqT K H a xs ∨ SqL K H a xs) ∧ xs.length = is.length ∧ Q (setAll σ is xs) H
def tgM : Tg → D → Rho → Sto → Option Rho
  | .nm i, d, ρ, _ => some (ρ.set i (some d))
  | .tp is, d, ρ, S => match items S d with
    | some xs => if xs.length = is.length then some (setAllM ρ is xs) else none
    | none => none
theorem tg_ok {K : PySem.W.Frag} {t : Tg} {d : D} {ρ ρ' : Rho} {S : Sto} {φ : List Addr} {σ : St} {H : Hp} {v : V} {Q : St → Hp → Prop} (em : Emb K G φ S H) (rs : RS K G φ ρ σ H) (rv : RV K G H φ d v) (h : tgM t d ρ S = some ρ')
    (q : ∀ σ', RS K G φ ρ' σ' H → Q σ' H) : gTg K t v σ H Q := by
  cases t with
  | nm i => cases h; exact q _ (rs.set i rv)
  | tp is =>
    simp only [tgM] at h
    split at h
    · rename_i xs e
      split at h
      · rename_i hl
        cases h
        obtain ⟨a, vs, rfl, hs, rvs⟩ := items_ok em rv e
        exact ⟨a, vs, rfl, hs.symm, by rw [← RVs.length rvs]; exact hl, q _ (rs.setAll rvs)⟩
      · cases h
    · cases h
def gNs (is : List Nat) : TGs := fun vs σ H Q => vs.length = is.length ∧ Q (setAll σ is vs) H
theorem gs_nil : PGs X [] (gNs []) := ⟨fun pins s σ H vs us Q I r h => pgs_nil.run pins s σ H vs us Q I r ⟨List.length_eq_zero_iff.mp h.1, by
  have e : vs = [] := List.length_eq_zero_iff.mp h.1
  subst e
  exact h.2⟩⟩
theorem gs_cons {i : Nat} {is : List Nat} {x : Str} {es : List Expr} {pos : Pos} (d : DX X G W k) (hr : PGs X es (gNs is)) (hi : X.N[i]? = some x := by rfl) (hx : Loc X.env.scope x := by first | exact Or.inl rfl | exact Or.inr rfl)
    (hf : X.fn x = true ∨ X.env.scope.names.lookup x = some .local := by first | exact .inl rfl | exact .inr rfl)
    (hs : (assignEach (.Name x pos :: es) X.env).map (·.2) = assign (.Name x pos) X.env :: (assignEach es X.env).map (·.2) := by rfl) : PGs X (.Name x pos :: es) (gNs (i :: is)) := by
  refine ⟨fun pins s σ H vs us Q I r h => ?_⟩
  refine (pgs_cons (pg_name d.nd hi hx hf) hr hs).run pins s σ H vs us Q I r ?_
  obtain ⟨hl, hq⟩ := h
  cases vs with
  | nil => simp at hl
  | cons v vs => exact ⟨v, vs, rfl, by simpa using hl, hq⟩
theorem g_nm {i : Nat} {x : Str} {pos : Pos} (d : DX X G W k) (hi : X.N[i]? = some x := by rfl) (hx : Loc X.env.scope x := by first | exact Or.inl rfl | exact Or.inr rfl)
    (hf : X.fn x = true ∨ X.env.scope.names.lookup x = some .local := by first | exact .inl rfl | exact .inr rfl) : PG X (.Name x pos) (gTg X.K (.nm i)) := pg_name d.nd hi hx hf
theorem g_tp {es : List Expr} {kk : Nat} {is : List Nat} {pos : Pos} (d : DX X G W k) (h : PGs X es (gNs is)) (hn : (assignEach es X.env).length = is.length := by rfl) (hst : (assignEach es X.env).findIdx? (·.1) = none := by rfl) : PG X (.Tuple es kk pos) (gTg X.K (.tp is)) := by
  refine pg_conv (pg_or2 (pg_tup d.calm h hn hst) (pg_lst d.calm h hn hst)) ?_
  rintro v σ H Q ⟨a, xs, rfl, hs, hl, hq⟩
  rcases hs with hs | hs
  · exact .inl ⟨a, xs, rfl, hs, hl, hl, hq⟩
  · exact .inr ⟨a, xs, rfl, hs, hl, hl, hq⟩
def sTgO (r : Option Rho) (S : Sto) : SR := match r with
  | some ρ => .nx ρ S
  | none => .stuck
def sAsg (t : Tg) (m : MEx) : MSt := fun ρ S => (m ρ S).st ρ fun d S1 => sTgO (tgM t d ρ S1) S1
theorem s_asg {tg e : Expr} {t : Tg} {m : MEx} {pos : Pos} (he : PE X e (wpE X.K G W m)) (hg : PG X tg (gTg X.K t)) (hs : swapsWithSole [tg] e pos.line X.env = pure false := by rfl) (hw : swappedStores [tg] e X.env = pure none := by rfl)
    (h1 : (assignEach [tg] X.env).map (·.2) = [assign tg X.env] := by rfl) : PS X (.Assign [tg] e pos) (wpS X.K G W (sAsg t m)) := by
  refine ps_conv (ps_asg he hg hs hw h1) ?_
  rintro D σ H ⟨φ, ρ, S, em, rs, h⟩
  refine ⟨φ, ρ, S, em, rs, outR.st rs h fun d S1 φ1 v H1 x em1 rv h1 => ?_⟩
  cases q : tgM t d ρ S1 with
  | none => rw [q] at h1; exact h1.elim
  | some ρ' =>
    rw [q] at h1
    exact tg_ok em1 (rs.ext x) rv q fun σ' rs' => h1 φ1 σ' H1 .refl em1 rs'
/-! ### while -/
def whileN (c : MTs) (b : MSt) : Nat → MSt
  | 0 => fun _ _ => .stuck
  | n + 1 => fun ρ S => (c ρ S).st ρ fun t S1 => if t = true then
      match b ρ S1 with
      | .nx ρ' S' => whileN c b n ρ' S'
      | .ct ρ' S' => whileN c b n ρ' S'
      | .bk ρ' S' => .nx ρ' S'
      | r => r
    else .nx ρ S1
def FUEL : Nat := 1000000
def sWhile (c : MTs) (b : MSt) : MSt := whileN c b FUEL
theorem s_while {c : Expr} {body : List Stmt} {mc : MTs} {mb : MSt} {pos : Pos} (d : DX X G W k) (hc : PT X c (wpT X.K G W mc)) (hb : PSs X body (wpS X.K G W mb)) : PS X (.While c body [] pos) (wpS X.K G W (sWhile mc mb)) := by
  refine ps_conv (ps_while d.pn hc hb) ?_
  intro D σ H h
  refine ⟨fun m σ H => wpS X.K G W (whileN mc mb m) D σ H, ⟨FUEL, h⟩, fun m σ H h => ?_⟩
  obtain ⟨φ, ρ, S, em, rs, h⟩ := h
  cases m with
  | zero => exact h.elim
  | succ n =>
    refine ⟨φ, ρ, S, em, rs, outR.st rs h fun t S1 φ1 t' H1 x em1 rv h1 => ?_⟩
    cases (show t = t' from rv)
    cases t with
    | false => exact h1 φ1 σ H1 .refl em1 (rs.ext x)
    | true =>
      rw [if_pos rfl] at h1 ⊢
      refine ⟨fun σ' H' => wpS X.K G W (whileN mc mb n) D σ' H', fun σ' H' z => ⟨n, Nat.lt_succ_self n, z⟩, φ1, ρ, S1, em1, rs.ext x, ?_⟩
      cases q : mb ρ S1 with
      | nx ρ' S' => rw [q] at h1; exact fun φ' σ' H' x' em' rs' => ⟨φ', ρ', S', em', rs', h1.from x'⟩
      | ct ρ' S' => rw [q] at h1; exact fun φ' σ' H' x' em' rs' => ⟨φ', ρ', S', em', rs', h1.from x'⟩
      | bk ρ' S' => rw [q] at h1; exact h1
      | rt d S' => rw [q] at h1; exact h1
      | xc e ρ' S' => rw [q] at h1; exact h1
      | stuck => rw [q] at h1; exact h1
/-! ### for -/
structure MIt where
  get : Nat → Sto → Option (Option D)
  fuel : Nat
def ItOk (K : PySem.W.Frag) (G : Ga) (it : MIt) (J : It) (φ0 : List Addr) (H0 : Hp) : Prop :=
  ∀ (i : Nat) φ S H, Ext φ0 H0 φ H → Emb K G φ S H → match it.get i S with
    | none => True
    | some none => J.stop i H
    | some (some d) => J.go i H ∧ ∀ y H', J.yld i H y H' → Ext φ H φ H' ∧ Emb K G φ S H' ∧ RV K G H' φ d y
abbrev MIx := Rho → Sto → Res MIt
def wpI (K : PySem.W.Frag) (G : Ga) (W : WX) (m : MIx) : TI := fun σ H R => ∃ φ ρ S, Emb K G φ S H ∧ RS K G φ ρ σ H ∧
  match m ρ S with
  | .ok it S' => ∀ φ' J H', Ext φ H φ' H' → Emb K G φ' S' H' → ItOk K G it J φ' H' → R J H'
  | .exc e S' => ∀ φ' H', Ext φ H φ' H' → Emb K G φ' S' H' → XW K G W e φ' σ H'
  | .stuck => False
def forGo (it : MIt) (t : Tg) (b : MSt) : Nat → Nat → MSt
  | 0, _ => fun _ _ => .stuck
  | n + 1, i => fun ρ S => match it.get i S with
    | none => .stuck
    | some none => .nx ρ S
    | some (some d) => match tgM t d ρ S with
      | none => .stuck
      | some ρ1 => match b ρ1 S with
        | .nx ρ' S' => forGo it t b n (i + 1) ρ' S'
        | .ct ρ' S' => forGo it t b n (i + 1) ρ' S'
        | .bk ρ' S' => .nx ρ' S'
        | r => r
def sFor (mi : MIx) (t : Tg) (b : MSt) : MSt := fun ρ S => (mi ρ S).st ρ fun it S1 => forGo it t b it.fuel 0 ρ S1
theorem s_for {tg iter : Expr} {body : List Stmt} {mi : MIx} {t : Tg} {mb : MSt} {pos : Pos} (d : DX X G W k) (hi : PI X tg iter (wpI X.K G W mi)) (hg : PG X tg (gTg X.K t)) (hb : PSs X body (wpS X.K G W mb))
    (hs : ∀ x, foldedSetIterable iter X.env x = pure x := by intro _; rfl) : PS X (.For tg iter body [] pos) (wpS X.K G W (sFor mi t mb)) := by
  refine ps_conv (ps_for d.pn d.calm hi hg hb hs) ?_
  rintro D σ H ⟨φ, ρ, S, em, rs, h⟩
  refine ⟨φ, ρ, S, em, rs, ?_⟩
  unfold sFor at h
  cases q : mi ρ S with
  | stuck => rw [q] at h; exact h
  | exc e S' => rw [q] at h; exact fun φ' H' x em' => h φ' σ H' x em' (rs.ext x)
  | ok it S1 =>
    rw [q] at h
    intro φ1 J H1 x1 em1 hJ
    refine ⟨fun i m σ H => ∃ φ ρ S, Ext φ1 H1 φ H ∧ Emb X.K G φ S H ∧ RS X.K G φ ρ σ H ∧ outS X.K G W (forGo it t mb m i ρ S) φ H D, ⟨it.fuel, φ1, ρ, S1, .refl, em1, rs.ext x1, outS.from x1 h⟩, ?_⟩
    rintro i m σ2 H2 ⟨φ2, ρ2, S2, x2, em2, rs2, h2⟩
    cases m with
    | zero => exact h2.elim
    | succ n =>
      have hj := hJ i φ2 S2 H2 x2 em2
      unfold forGo at h2
      cases hget : it.get i S2 with
      | none => rw [hget] at h2; exact h2.elim
      | some od =>
        cases od with
        | none => rw [hget] at h2 hj; exact .inl ⟨hj, h2 φ2 σ2 H2 .refl em2 rs2⟩
        | some dv =>
          rw [hget] at h2 hj
          refine .inr ⟨hj.1, fun σ' H' => ∃ φ ρ S, Ext φ1 H1 φ H' ∧ Emb X.K G φ S H' ∧ RS X.K G φ ρ σ' H' ∧ outS X.K G W (forGo it t mb n (i + 1) ρ S) φ H' D, fun σ' H' z => ⟨n, Nat.lt_succ_self n, z⟩, fun y H3 hy => ?_⟩
          obtain ⟨x3, em3, rv⟩ := hj.2 y H3 hy
          cases ht : tgM t dv ρ2 S2 with
          | none => simp only [ht] at h2; exact h2.elim
          | some ρ3 =>
            simp only [ht] at h2
            refine tg_ok em3 (rs2.ext x3) rv ht fun σ3 rs3 => ⟨φ2, ρ3, S2, em3, rs3, ?_⟩
            have h2' := outS.from x3 h2
            cases qb : mb ρ3 S2 with
            | nx ρ' S' => rw [qb] at h2'; exact fun φ' σ' H' x' em' rs' => ⟨φ', ρ', S', (x2.trans x3).trans x', em', rs', h2'.from x'⟩
            | ct ρ' S' => rw [qb] at h2'; exact fun φ' σ' H' x' em' rs' => ⟨φ', ρ', S', (x2.trans x3).trans x', em', rs', h2'.from x'⟩
            | bk ρ' S' => rw [qb] at h2'; exact h2'
            | rt d S' => rw [qb] at h2'; exact h2'
            | xc e ρ' S' => rw [qb] at h2'; exact h2'
            | stuck => rw [qb] at h2'; exact h2'
end
end MP

set_option Elab.async false
set_option linter.all false
set_option maxRecDepth 100000
set_option maxHeartbeats 2000000
namespace MP
open PySem L2
section
variable {X : Cx} {G : Ga} {W : WX} {k : Nat}
/-! ### what is walked -/
def altI (a b : MIx) : MIx := fun ρ S => match a ρ S with
  | .stuck => b ρ S
  | r => r
theorem i_alt {tg e : Expr} {a b : MIx} (ha : PI X tg e (wpI X.K G W a)) (hb : PI X tg e (wpI X.K G W b)) : PI X tg e (wpI X.K G W (altI a b)) := by
  refine pi_conv (pi_or2 ha hb) ?_
  rintro σ H Q ⟨φ, ρ, S, em, rs, h⟩
  unfold altI at h
  cases q : a ρ S with
  | ok d S' => rw [q] at h; exact .inl ⟨φ, ρ, S, em, rs, by rw [q]; exact h⟩
  | exc d S' => rw [q] at h; exact .inl ⟨φ, ρ, S, em, rs, by rw [q]; exact h⟩
  | stuck => rw [q] at h; exact .inr ⟨φ, ρ, S, em, rs, h⟩
def Res.it {α : Type} (r : Res α) (f : α → Sto → Option MIt) : Res MIt := r.bind fun a S => match f a S with
  | some it => .ok it S
  | none => .stuck
def lstGet (l : Nat) : Nat → Sto → Option (Option D) := fun i S => match S[l]? with
  | some (.lst xs) => some xs[i]?
  | _ => none
/-- a tuple's items, a value's, a text's signs: they stay as they are -/
def fixGet (xs : List D) : Nat → Sto → Option (Option D) := fun i _ => some xs[i]?
def itL (d : D) (S : Sto) : Option MIt := match d with
  | .loc l => match S[l]? with
    | some (.lst xs) => some ⟨lstGet l, xs.length + 1⟩
    | _ => none
  | .vl xs => some ⟨fixGet xs, xs.length + 1⟩
  | .cl xs => some ⟨fixGet xs, xs.length + 1⟩
  | _ => none
def miL (m : MEx) : MIx := fun ρ S => (m ρ S).it itL
theorem sq_inj {K : PySem.W.Frag} {H : Hp} {φ : List Addr} {fz : Bool} {xs : List D} {a : Addr} (ro : RO K G H φ (.lst xs) a) : ∃ vs, SqL K H a vs ∧ RVs K G H φ xs vs := ro.sql
theorem it_list {K : PySem.W.Frag} {l : Nat} {a : Addr} {n : Nat} {φ0 : List Addr} {H0 : Hp} (ha : φ0[l]? = some a) : ItOk K G ⟨lstGet l, n⟩ (Itl K a) φ0 H0 := by
  intro i φ S H x em
  have ha' := pre_get x.1 ha
  show match lstGet l i S with | none => True | some none => _ | some (some d) => _
  unfold lstGet
  split
  · trivial
  · rename_i e
    split at e
    · rename_i fz xs es
      obtain ⟨vs, sq, rv⟩ := (em.ob l _ a es ha').sql
      have e' : xs[i]? = none := Option.some.inj e
      exact ⟨vs, sq, by rw [← RVs.length rv]; exact List.getElem?_eq_none_iff.mp e'⟩
    · cases e
  · rename_i d e
    split at e
    · rename_i fz xs es
      obtain ⟨vs, sq, rv⟩ := (em.ob l _ a es ha').sql
      have e' : xs[i]? = some d := Option.some.inj e
      obtain ⟨v, ev, r⟩ := RVs.get rv e'
      refine ⟨⟨vs, v, sq, ev⟩, ?_⟩
      rintro y H' ⟨rfl, hy⟩
      have := hy vs sq
      rw [ev] at this
      cases this
      exact ⟨.refl, em, r⟩
    · cases e
theorem it_vl {K : PySem.W.Frag} {d : D} {xs : List D} {a : Addr} {n : Nat} {φ0 : List Addr} {H0 : Hp} (hd : ∀ S, lstO S d = some xs) (r : RV K G H0 φ0 d (.ref a)) : ItOk K G ⟨fixGet xs, n⟩ (Itl K a) φ0 H0 := by
  intro i φ S H x em
  show match fixGet xs i S with | none => True | some none => _ | some (some d) => _
  obtain ⟨p, vs, e0, sq, s⟩ := lst_ok em (r.ext x) (hd S)
  cases e0
  unfold fixGet
  cases e : xs[i]? with
  | none => exact ⟨_, sq, by rw [← RVs.length s]; exact List.getElem?_eq_none_iff.mp e⟩
  | some d =>
    obtain ⟨v, ev, r'⟩ := RVs.get s e
    refine ⟨⟨_, v, sq, ev⟩, ?_⟩
    rintro y H' ⟨rfl, hy⟩
    have := hy _ sq
    rw [ev] at this
    cases this
    exact ⟨.refl, em, r'⟩
theorem i_list {tg e : Expr} {m : MEx} (he : PE X e (wpE X.K G W m)) : PI X tg e (wpI X.K G W (miL m)) := by
  refine pi_conv (pi_list he) ?_
  rintro σ H R ⟨φ, ρ, S, em, rs, h⟩
  refine ⟨φ, ρ, S, em, rs, ?_⟩
  unfold miL Res.it at h
  cases q : m ρ S with
  | stuck => rw [q] at h; exact h
  | exc e S' => rw [q] at h; exact h
  | ok d S1 =>
    rw [q] at h
    intro φ1 v H1 x1 em1 rv
    simp only [Res.bind_ok] at h
    unfold itL at h
    split at h
    · rename_i it S2 hh
      split at hh
      · rename_i it' e1
        split at e1
        · rename_i l
          split at e1
          · rename_i fz xs es
            cases e1
            cases hh
            obtain ⟨a, rfl, ha, ro⟩ := em1.at_loc es rv
            obtain ⟨vs, sq, _⟩ := ro.sql
            exact ⟨a, rfl, ⟨vs, sq⟩, h φ1 _ H1 x1 em1 (it_list ha)⟩
          · cases e1
        · rename_i xs
          cases e1
          cases hh
          obtain ⟨a, vs, rfl, sq, _⟩ := lst_ok em1 rv (xs := xs) rfl
          exact ⟨_, rfl, ⟨_, sq⟩, h φ1 _ H1 x1 em1 (it_vl (fun _ => rfl) rv)⟩
        · rename_i xs
          cases e1
          cases hh
          obtain ⟨a, vs, rfl, sq, _⟩ := lst_ok em1 rv (xs := xs) rfl
          exact ⟨_, rfl, ⟨_, sq⟩, h φ1 _ H1 x1 em1 (it_vl (fun _ => rfl) rv)⟩
        · cases e1
      · cases hh
    · rename_i hh; split at hh <;> cases hh
    · exact h.elim
def itT (d : D) (_ : Sto) : Option MIt := match d with
  | .tup xs => some ⟨fixGet xs, xs.length + 1⟩
  | _ => none
def miT (m : MEx) : MIx := fun ρ S => (m ρ S).it itT
/-- the common part: an expression, then its iterator -/
theorem it_core {K : PySem.W.Frag} {α : Type} {β : Type} {R : Hp → List Addr → α → β → Prop} {m : Rho → Sto → Res α} {f : α → Sto → Option MIt} {φ : List Addr} {ρ : Rho} {S : Sto} {σ : St} {H : Hp} {RR : It → Hp → Prop} {Q1 : β → Hp → Prop}
    (h : match (m ρ S).it f with
      | .ok it S' => ∀ φ' J H', Ext φ H φ' H' → Emb K G φ' S' H' → ItOk K G it J φ' H' → RR J H'
      | .exc e S' => ∀ φ' H', Ext φ H φ' H' → Emb K G φ' S' H' → XW K G W e φ' σ H'
      | .stuck => False)
    (kk : ∀ a S1 φ1 b H1 it, Ext φ H φ1 H1 → Emb K G φ1 S1 H1 → R H1 φ1 a b → f a S1 = some it → (∀ J, ItOk K G it J φ1 H1 → RR J H1) → Q1 b H1) : outR K G W R (m ρ S) φ σ H Q1 := by
  unfold Res.it at h
  cases q : m ρ S with
  | stuck => rw [q] at h; exact h
  | exc e S' => rw [q] at h; exact h
  | ok d S1 =>
    rw [q] at h
    intro φ1 v H1 x1 em1 rv
    simp only [Res.bind_ok] at h
    cases hf : f d S1 with
    | none => simp only [hf] at h
    | some it =>
      simp only [hf] at h
      exact kk d S1 φ1 v H1 it x1 em1 rv hf fun J hJ => h φ1 J H1 x1 em1 hJ
theorem i_tup {tg e : Expr} {m : MEx} (he : PE X e (wpE X.K G W m)) : PI X tg e (wpI X.K G W (miT m)) := by
  refine pi_conv (pi_tup he) ?_
  rintro σ H R ⟨φ, ρ, S, em, rs, h⟩
  refine ⟨φ, ρ, S, em, rs, it_core h fun d S1 φ1 v H1 it x1 em1 rv hf hR => ?_⟩
  unfold itT at hf
  split at hf
  · rename_i xs
    cases hf
    cases rv with
    | @tup _ vs a s q =>
      refine ⟨_, rfl, ⟨_, s⟩, hR _ ?_⟩
      intro i φ' S' H' x em'
      show match fixGet xs i S' with | none => True | some none => _ | some (some d) => _
      unfold fixGet
      have s' := x.2.sqt s
      have q' := RVs.ext x q
      cases e : xs[i]? with
      | none => exact ⟨vs, s', by rw [← RVs.length q']; exact List.getElem?_eq_none_iff.mp e⟩
      | some d =>
        obtain ⟨w, ew, r⟩ := RVs.get q' e
        refine ⟨⟨vs, w, s', ew⟩, ?_⟩
        rintro y H'' ⟨rfl, hy⟩
        have := hy vs s'
        rw [ew] at this
        cases this
        exact ⟨.refl, em', r⟩
  · cases hf
def signs (z : Str) : List D := z.cps.toList.map fun c => .str ⟨#[c]⟩
def itS (d : D) (_ : Sto) : Option MIt := match d with
  | .str z => some ⟨fixGet (signs z), z.length + 1⟩
  | _ => none
def miS (m : MEx) : MIx := fun ρ S => (m ρ S).it itS
theorem i_str {tg e : Expr} {m : MEx} (he : PE X e (wpE X.K G W m)) : PI X tg e (wpI X.K G W (miS m)) := by
  refine pi_conv (pi_str he) ?_
  rintro σ H R ⟨φ, ρ, S, em, rs, h⟩
  refine ⟨φ, ρ, S, em, rs, it_core h fun d S1 φ1 v H1 it x1 em1 rv hf hR => ?_⟩
  unfold itS at hf
  split at hf
  · rename_i z
    cases hf
    cases rv
    refine ⟨z, rfl, hR _ ?_⟩
    intro i φ' S' H' x em'
    show match fixGet (signs z) i S' with | none => True | some none => _ | some (some d) => _
    unfold fixGet signs
    have e0 : z.cps.toList[i]? = z.cps[i]? := by simp
    rw [List.getElem?_map, e0]
    cases e : z.cps[i]? with
    | none => exact Array.getElem?_eq_none_iff.mp e
    | some c =>
      refine ⟨(Array.getElem?_eq_some_iff.mp e).1, ?_⟩
      rintro y H'' ⟨rfl, c', e', rfl⟩
      rw [e] at e'
      cases e'
      exact ⟨.refl, em', .str⟩
  · cases hf
def rngGet (lo : Int) (n : Nat) : Nat → Sto → Option (Option D) := fun i _ => some (if i < n then some (.int (lo + i)) else none)
theorem it_rng {K : PySem.W.Frag} {lo : Int} {n m : Nat} {φ0 : List Addr} {H0 : Hp} : ItOk K G ⟨rngGet lo n, m⟩ (Itr lo n) φ0 H0 := by
  intro i φ S H x em
  show match rngGet lo n i S with | none => True | some none => _ | some (some d) => _
  unfold rngGet
  by_cases h : i < n
  · rw [if_pos h]
    refine ⟨h, ?_⟩
    rintro y H' ⟨rfl, rfl⟩
    exact ⟨.refl, em, .int⟩
  · rw [if_neg h]
    exact Nat.le_of_not_lt h
def itR1 (ds : List D) (_ : Sto) : Option MIt := match ds with
  | [.int j] => if -(2 ^ 62) ≤ j ∧ j < 2 ^ 62 then some ⟨rngGet 0 j.toNat, j.toNat + 1⟩ else none
  | _ => none
def itR2 (ds : List D) (_ : Sto) : Option MIt := match ds with
  | [.int i, .int j] => if -(2 ^ 62) ≤ i ∧ i < 2 ^ 62 ∧ -(2 ^ 62) ≤ j ∧ j < 2 ^ 62 then some ⟨rngGet i (j - i).toNat, (j - i).toNat + 1⟩ else none
  | _ => none
def miR1 (ms : MAr) : MIx := fun ρ S => (ms ρ S).it itR1
def miR2 (ms : MAr) : MIx := fun ρ S => (ms ρ S).it itR2
theorem i_rng1 {tg a : Expr} {ms : MAr} {p pos : Pos} (hm : X.mg "range" = none) (ha : PA X [a] (wpA X.K G W ms)) (hg : Gl X "range" := by rfl) (hs : starEach [a] X.env = [(false, eval a X.env)] := by rfl) : PI X tg (.Call (.Name "range" p) [a] [] pos) (wpI X.K G W (miR1 ms)) := by
  refine pi_conv (pi_range1 hg hm ha hs) ?_
  rintro σ H R ⟨φ, ρ, S, em, rs, h⟩
  refine ⟨φ, ρ, S, em, rs, it_core h fun d S1 φ1 v H1 it x1 em1 rv hf hR => ?_⟩
  unfold itR1 at hf
  split at hf
  · split at hf
    · rename_i j hj
      cases hf
      cases (show RVs X.K G H1 φ1 _ v from rv) with
      | cons a b => cases a; cases b; exact ⟨j, rfl, hj.1, hj.2, hR _ it_rng⟩
    · cases hf
  · cases hf
theorem i_rng2 {tg a b : Expr} {ms : MAr} {p pos : Pos} (hm : X.mg "range" = none) (ha : PA X [a, b] (wpA X.K G W ms)) (hg : Gl X "range" := by rfl) (hs : starEach [a, b] X.env = [(false, eval a X.env), (false, eval b X.env)] := by rfl) (hs2 : starEach [b] X.env = [(false, eval b X.env)] := by rfl) :
    PI X tg (.Call (.Name "range" p) [a, b] [] pos) (wpI X.K G W (miR2 ms)) := by
  refine pi_conv (pi_range2 hg hm ha hs hs2) ?_
  rintro σ H R ⟨φ, ρ, S, em, rs, h⟩
  refine ⟨φ, ρ, S, em, rs, it_core h fun d S1 φ1 v H1 it x1 em1 rv hf hR => ?_⟩
  unfold itR2 at hf
  split at hf
  · split at hf
    · rename_i i j hj
      cases hf
      cases (show RVs X.K G H1 φ1 _ v from rv) with
      | cons a b => cases a; cases b with
        | cons a b => cases a; cases b; exact ⟨i, j, rfl, hj, hR _ it_rng⟩
    · cases hf
  · cases hf
/-- enumerate(list) -/
def enGet (l : Nat) : Nat → Sto → Option (Option D) := fun i S => match S[l]? with
  | some (.lst xs) => some (xs[i]?.map fun d => .tup [.int (i : Nat), d])
  | _ => none
def enFix (xs : List D) : Nat → Sto → Option (Option D) := fun i _ => some (xs[i]?.map fun d => .tup [.int (i : Nat), d])
def itEn (ds : List D) (S : Sto) : Option MIt := match ds with
  | [.loc l] => match S[l]? with
    | some (.lst xs) => some ⟨enGet l, xs.length + 1⟩
    | _ => none
  | [.vl xs] => some ⟨enFix xs, xs.length + 1⟩
  | [.cl xs] => some ⟨enFix xs, xs.length + 1⟩
  | _ => none
def miEn (ms : MAr) : MIx := fun ρ S => (ms ρ S).it itEn
theorem it_enF {K : PySem.W.Frag} {d : D} {xs : List D} {a : Addr} {n : Nat} {φ0 : List Addr} {H0 : Hp} (hd : ∀ S, lstO S d = some xs) (r : RV K G H0 φ0 d (.ref a)) : ItOk K G ⟨enFix xs, n⟩ (Ite K a) φ0 H0 := by
  intro i φ S H x em
  show match enFix xs i S with | none => True | some none => _ | some (some d) => _
  obtain ⟨p, vs, e0, sq, s⟩ := lst_ok em (r.ext x) (hd S)
  cases e0
  unfold enFix
  cases e : xs[i]? with
  | none => simp only [Option.map_none]; exact ⟨vs, sq, by rw [← RVs.length s]; exact List.getElem?_eq_none_iff.mp e⟩
  | some d =>
    simp only [Option.map_some]
    obtain ⟨w, ew, r'⟩ := RVs.get s e
    refine ⟨⟨vs, w, sq, ew⟩, ?_⟩
    rintro y H'' ⟨T, x0, rfl, hT, rfl, hy⟩
    have := hy vs sq
    rw [ew] at this
    cases this
    exact ⟨.other hT, em.other hT, .tup (.of upd_same) (.cons .int (.cons (RV.ext (.other hT) r') .nil))⟩
theorem i_enum {e : Expr} {elts : List Expr} {kk : Nat} {ms : MAr} {p pos tpos : Pos} (hm : X.mg "enumerate" = none) (ha : PA X [e] (wpA X.K G W ms)) (hg : Gl X "enumerate" := by rfl) (hs : starEach [e] X.env = [(false, eval e X.env)] := by rfl) :
    PI X (.Tuple elts kk tpos) (.Call (.Name "enumerate" p) [e] [] pos) (wpI X.K G W (miEn ms)) := by
  refine pi_conv (pi_enum hg hm ha hs) ?_
  rintro σ H R ⟨φ, ρ, S, em, rs, h⟩
  refine ⟨φ, ρ, S, em, rs, it_core h fun d S1 φ1 v H1 it x1 em1 rv hf hR => ?_⟩
  unfold itEn at hf
  split at hf
  · rename_i l
    split at hf
    · rename_i xs es
      cases hf
      cases (show RVs X.K G H1 φ1 _ v from rv) with
      | cons r b =>
        cases b
        obtain ⟨a, rfl, ha, ro⟩ := em1.at_loc es r
        obtain ⟨vs, sq, rvs⟩ := ro.sql
        refine ⟨a, vs, rfl, sq, hR _ ?_⟩
        intro i φ' S' H' x em'
        show match enGet l i S' with | none => True | some none => _ | some (some d) => _
        unfold enGet
        have ha' := pre_get x.1 ha
        cases es' : S'[l]? with
        | none => trivial
        | some o =>
          cases o with
          | lst ys =>
            obtain ⟨ws, sq', rvs'⟩ := (em'.ob l _ a es' ha').sql
            cases e : ys[i]? with
            | none => simp only [e, Option.map_none]; exact ⟨ws, sq', by rw [← RVs.length rvs']; exact List.getElem?_eq_none_iff.mp e⟩
            | some d =>
              simp only [e, Option.map_some]
              obtain ⟨w, ew, r'⟩ := RVs.get rvs' e
              refine ⟨⟨ws, w, sq', ew⟩, ?_⟩
              rintro y H'' ⟨T, x0, rfl, hT, rfl, hy⟩
              have := hy ws sq'
              rw [ew] at this
              cases this
              exact ⟨.other hT, em'.other hT, .tup (.of upd_same) (.cons .int (.cons (RV.ext (.other hT) r') .nil))⟩
          | dct _ _ => trivial
          | ins _ _ => trivial
    · cases hf
  · rename_i xs
    cases hf
    cases (show RVs X.K G H1 φ1 _ v from rv) with
    | cons r b =>
      cases b
      obtain ⟨a, vs, rfl, sq, _⟩ := lst_ok em1 r (xs := xs) rfl
      exact ⟨a, vs, rfl, sq, hR _ (it_enF (fun _ => rfl) r)⟩
  · rename_i xs
    cases hf
    cases (show RVs X.K G H1 φ1 _ v from rv) with
    | cons r b =>
      cases b
      obtain ⟨a, vs, rfl, sq, _⟩ := lst_ok em1 r (xs := xs) rfl
      exact ⟨a, vs, rfl, sq, hR _ (it_enF (fun _ => rfl) r)⟩
  · cases hf
/-! ### comprehensions -/
def lcGo (it : MIt) (t : Tg) (tt : MTs) (me : MEx) (ρ : Rho) (L : Nat) : Nat → Nat → Sto → Res D
  | 0, _, _ => .stuck
  | n + 1, i, S => match it.get i S with
    | none => .stuck
    | some none => .ok (.loc L) S
    | some (some d) => match tgM t d ρ S with
      | none => .stuck
      | some ρ1 => (noX (tt ρ1 S)).bind fun b S2 => if b = true then
          (noX (me ρ1 S2)).bind fun y S3 => match S3[L]? with
            | some (.lst acc) => if acc.length < sizeLine then lcGo it t tt me ρ L n (i + 1) (S3.set L (.lst (acc ++ [y]))) else .stuck
            | _ => .stuck
        else lcGo it t tt me ρ L n (i + 1) S2
def mLc (mi : MIx) (t : Tg) (tt : MTs) (me : MEx) (own : List Nat) : MEx := fun ρ S => (mi ρ S).bind fun it S1 => lcGo it t tt me (clr own ρ) S1.length it.fuel 0 (S1 ++ [.lst []])
def tYesM : MTs := fun _ S => .ok true S
end
end MP

set_option Elab.async false
set_option linter.all false
set_option maxRecDepth 100000
set_option maxHeartbeats 2000000
namespace MP
open PySem L2
section
variable {X : Cx} {G : Ga} {W : WX} {k : Nat}
theorem wipe_get (σ : St) (j : Nat) : ∀ vs : List Nat, (wipe σ vs)[j]? = if j ∈ vs then σ[j]?.map (fun _ => (none : Option V)) else σ[j]?
  | [] => by simp [wipe]
  | v :: vs => by
    show ((wipe σ vs).set v none)[j]? = _
    have ih := wipe_get σ j vs
    by_cases hj : v = j
    · subst hj
      by_cases hl : v < σ.length
      · rw [List.getElem?_set_self (by rw [wipe_length]; exact hl), if_pos (by simp), List.getElem?_eq_getElem hl]
        rfl
      · rw [List.getElem?_eq_none (by simp [wipe_length]; omega), if_pos (by simp), List.getElem?_eq_none (by omega)]
        rfl
    · rw [List.getElem?_set_ne hj, ih]
      have hj' : ¬ j = v := fun e => hj e.symm
      simp only [List.mem_cons, hj', false_or]
theorem wipe_set {σ : St} {vs : List Nat} {i : Nat} {o : Option V} (h : i ∈ vs) : wipe ((wipe σ vs).set i o) vs = wipe σ vs := by
  apply List.ext_getElem?
  intro j
  rw [wipe_get, wipe_get, List.getElem?_set, wipe_get, wipe_length]
  by_cases hj : j ∈ vs
  · by_cases hi : i = j
    · subst hi
      by_cases hl : i < σ.length
      · simp [h, hl]
      · simp [h, hl, List.getElem?_eq_none (Nat.le_of_not_lt hl)]
    · simp [hj, hi, Option.map_map, Function.comp_def]
  · have hi : ¬ i = j := fun e => hj (e ▸ h)
    simp [hj, hi]
theorem wipe_idem {σ : St} {vs : List Nat} : wipe (wipe σ vs) vs = wipe σ vs := by
  apply List.ext_getElem?
  intro j
  rw [wipe_get, wipe_get]
  by_cases hj : j ∈ vs <;> simp [hj, Option.map_map, Function.comp_def]
theorem wipe_over {τ : St} {vs : List Nat} {i : Nat} {o : Option V} (h : i ∈ vs) : wipe (τ.set i o) vs = wipe τ vs := by
  apply List.ext_getElem?
  intro j
  rw [wipe_get, wipe_get, List.getElem?_set]
  by_cases hi : i = j
  · subst hi
    by_cases hl : i < τ.length
    · simp [h, hl]
    · simp [h, hl, List.getElem?_eq_none (Nat.le_of_not_lt hl)]
  · simp [hi]
theorem wipe_setAll {vs : List Nat} {σ : St} : ∀ {is : List Nat} {xs : List V} {τ : St}, (∀ i ∈ is, i ∈ vs) → wipe τ vs = wipe σ vs → wipe (setAll τ is xs) vs = wipe σ vs
  | [], [], _, _, e => e
  | [], _ :: _, _, _, e => e
  | _ :: _, [], _, _, e => e
  | i :: is, x :: xs, τ, h, e => by
    show wipe (setAll (τ.set i (some x)) is xs) vs = wipe σ vs
    exact wipe_setAll (fun j hj => h j (by simp [hj])) ((wipe_over (h i (by simp))).trans e)
theorem rs_wipe {K : PySem.W.Frag} {φ : List Addr} {ρ : Rho} {σ : St} {H : Hp} (h : RS K G φ ρ σ H) (vs : List Nat) : RS K G φ (clr vs ρ) (L2.wipe σ vs) H := by
  induction vs with
  | nil => exact h
  | cons i vs ih =>
    show RS K G φ ((clr vs ρ).set i none) ((L2.wipe σ vs).set i none) H
    refine ⟨by simp [ih.len], fun j d e => ?_⟩
    by_cases hj : i = j
    · subst hj
      rw [List.getElem?_set] at e
      simp at e
    · rw [List.getElem?_set_ne hj] at e ⊢
      exact ih.at_ j d e
def Tg.ins : Tg → List Nat → Bool
  | .nm i, vs => vs.contains i
  | .tp is, vs => is.all fun i => vs.contains i
theorem tg_wipe {K : PySem.W.Frag} {t : Tg} {vs : List Nat} (ht : t.ins vs = true) {v : V} {σ : St} {H : Hp} {Q : St → Hp → Prop} (h : gTg K t v (wipe σ vs) H Q) : gTg K t v (wipe σ vs) H (fun σ' H' => wipe σ' vs = wipe σ vs ∧ Q σ' H') := by
  cases t with
  | nm i =>
    have hi : i ∈ vs := by simpa [Tg.ins] using ht
    exact ⟨wipe_set hi, h⟩
  | tp is =>
    obtain ⟨a, xs, e, hs, hl, q⟩ := h
    have hi : ∀ i ∈ is, i ∈ vs := by simpa [Tg.ins] using ht
    exact ⟨a, xs, e, hs, hl, wipe_setAll hi wipe_idem, q⟩
theorem out_noXb {K : PySem.W.Frag} {α β γ δ : Type} {R : Hp → List Addr → α → β → Prop} {R' : Hp → List Addr → γ → δ → Prop} {r : Res α} {f : α → Sto → Res γ} {φ : List Addr} {σ σ' : St} {H : Hp} {Q : δ → Hp → Prop} {Q1 : β → Hp → Prop} (h : outR K G W R' ((noX r).bind f) φ σ H Q)
    (kk : ∀ a S1 φ1 b H1, Ext φ H φ1 H1 → Emb K G φ1 S1 H1 → R H1 φ1 a b → outR K G W R' (f a S1) φ1 σ H1 Q → Q1 b H1) : outR K G W0 R r φ σ' H Q1 := by
  cases r with
  | ok a S => exact fun φ1 b H1 x em rv => kk a S φ1 b H1 x em rv (outR.from x h)
  | exc e S => exact h.elim
  | stuck => exact h
/-- the append to the list at L -/
theorem app_step {K : PySem.W.Frag} {φ : List Addr} {S : Sto} {H : Hp} {L : Nat} {p : Addr} {acc : List D} {y : D} {v : V} (em : Emb K G φ S H) (hp : φ[L]? = some p) (hS : S[L]? = some (.lst acc)) (rv : RV K G H φ y v) :
    ∃ vs, H p = some (.lst vs) ∧ vs.length = acc.length ∧ Ext φ H φ (upd H p (.lst (vs ++ [v]))) ∧ Emb K G φ (S.set L (.lst (acc ++ [y]))) (upd H p (.lst (vs ++ [v]))) := by
  obtain ⟨vs, e1, rvs⟩ := (em.ob L _ p hS hp).lstM
  have n1 : ∀ xs, HO.lst vs ≠ .tup xs := fun _ z => nomatch z
  have n2 : ∀ ob w, HO.lst vs ≠ .frz ob w := fun _ _ z => nomatch z
  have xa : Ext φ H φ (upd H p (.lst (vs ++ [v]))) := .at hp e1 n1 n2
  exact ⟨vs, e1, (RVs.length rvs).symm, xa, em.set hS hp e1 n1 n2 (.lst upd_same (RVs.ext xa (RVs.append rvs (.cons rv .nil))))⟩
theorem lc_ok {K : PySem.W.Frag} {mi : MIx} {t : Tg} {tt : MTs} {me : MEx} {own : List Nat} {cw : TI} (hcw : ∀ σ H R, wpI K G W mi σ H R → cw σ H R) (ht : t.ins own = true) (σ : St) (H : Hp) (Q : VK) (h : wpE K G W (mLc mi t tt me own) σ H Q) :
    tLc cw (gTg K t) (wpT K G W0 tt) (wpE K G W0 me) own σ H Q := by
  obtain ⟨φ, ρ, S, em, rs, h⟩ := h
  refine hcw σ H _ ⟨φ, ρ, S, em, rs, ?_⟩
  unfold mLc at h
  cases q : mi ρ S with
  | stuck => rw [q] at h; exact h
  | exc e S' => rw [q] at h; exact h
  | ok it S1 =>
    rw [q] at h
    intro φ1 J H1 x1 em1 hJ p hp
    have xn : Ext φ1 H1 (φ1 ++ [p]) (upd H1 p (.lst [])) := .new hp
    have em2 : Emb K G (φ1 ++ [p]) (S1 ++ [.lst []]) (upd H1 p (.lst [])) := em1.new hp (.lst upd_same .nil)
    have hL : (φ1 ++ [p])[S1.length]? = some p := by rw [← em1.len]; simp
    have rsw : RS K G φ1 (clr own ρ) (L2.wipe σ own) H1 := rs_wipe (rs.ext x1) own
    refine ⟨fun i m H => ∃ φ S, Ext (φ1 ++ [p]) (upd H1 p (.lst [])) φ H ∧ Emb K G φ S H ∧ outR K G W (rE K G) (lcGo it t tt me (clr own ρ) S1.length m i S) φ σ H Q, ⟨it.fuel, _, _, .refl, em2, outR.from (x1.trans xn) h⟩, ?_⟩
    rintro i m H2 ⟨φ2, S2, x2, em3, h2⟩
    have x12 : Ext φ1 H1 φ2 H2 := xn.trans x2
    have hL2 := pre_get x2.1 hL
    cases m with
    | zero => exact h2.elim
    | succ n =>
      have hj := hJ i φ2 S2 H2 x12 em3
      unfold lcGo at h2
      cases hget : it.get i S2 with
      | none => rw [hget] at h2; exact h2.elim
      | some od =>
        cases od with
        | none => rw [hget] at h2 hj; exact .inl ⟨hj, outR.ok (R := rE K G) h2 em3 (.loc hL2)⟩
        | some dv =>
          rw [hget] at h2 hj
          refine .inr ⟨hj.1, fun H' => ∃ φ S, Ext (φ1 ++ [p]) (upd H1 p (.lst [])) φ H' ∧ Emb K G φ S H' ∧ outR K G W (rE K G) (lcGo it t tt me (clr own ρ) S1.length n (i + 1) S) φ σ H' Q, fun H' z => ⟨n, Nat.lt_succ_self n, z⟩, fun y H3 hy => ?_⟩
          obtain ⟨x3, em4, rv⟩ := hj.2 y H3 hy
          cases htg : tgM t dv (clr own ρ) S2 with
          | none => simp only [htg] at h2; exact h2.elim
          | some ρ3 =>
            simp only [htg] at h2
            refine tg_wipe ht (tg_ok em4 (rsw.ext (x12.trans x3)) rv htg fun σ3 rs3 => ?_)
            refine ⟨φ2, ρ3, S2, em4, rs3, out_noXb (outR.from x3 h2) fun b S4 φ4 b' H4 x4 em5 rb h4 => ?_⟩
            cases (show b = b' from rb)
            cases b with
            | false => exact ⟨φ4, S4, (x2.trans x3).trans x4, em5, h4⟩
            | true =>
              refine ⟨φ4, ρ3, S4, em5, rs3.ext x4, out_noXb (show outR K G W (rE K G) _ φ4 σ H4 Q from h4) fun yd S5 φ5 yv H5 x5 em6 ry h5 => ?_⟩
              have xx : Ext (φ1 ++ [p]) (upd H1 p (.lst [])) φ5 H5 := ((x2.trans x3).trans x4).trans x5
              have hL5 := pre_get xx.1 hL
              split at h5
              · rename_i acc eS
                split at h5
                · rename_i hlt
                  obtain ⟨vs, e1, e2, xa, em7⟩ := app_step em6 hL5 eS ry
                  exact ⟨vs, e1, by rw [e2]; exact hlt, φ5, _, xx.trans xa, em7, outR.from xa h5⟩
                · exact h5.elim
              · exact h5.elim
/-- a block's context -/
theorem DX.blk (d : DX X G W k) (s : Shared) (H : Hp) (scope : Scope) (ce : Env) (fp : List Addr) : DX (X.blk s H scope ce fp) G W0 k :=
  ⟨d.calm, takes0, PassesOwn.never, ⟨d.hr.hd, d.hr.dp, d.hr.un⟩, d.nd⟩
theorem d_lc {elt tg iter : Expr} {ifs : List Expr} {scope : Scope} {own : List (Str × Nat)} {pos : Pos} {mi : MIx} {t : Tg} {tt : MTs} {me : MEx} (d : DX X G W k) (hi : PI X tg iter (wpI X.K G W mi)) (ok : blkC X.N X.env.scope scope own = true)
    (hg : ∀ (s : Shared) (H : Hp) (C : Addr) (cl : List (Str × Addr)) (fp : List Addr), DX (X.blk s H scope (compEnvC scope cl C X.env) fp) G W0 k → PG (X.blk s H scope (compEnvC scope cl C X.env) fp) tg (gTg X.K t))
    (htt : ∀ (s : Shared) (H : Hp) (C : Addr) (cl : List (Str × Addr)) (fp : List Addr), DX (X.blk s H scope (compEnvC scope cl C X.env) fp) G W0 k → PTs (X.blk s H scope (compEnvC scope cl C X.env) fp) ifs (wpT X.K G W0 tt))
    (he : ∀ (s : Shared) (H : Hp) (C : Addr) (cl : List (Str × Addr)) (fp : List Addr), DX (X.blk s H scope (compEnvC scope cl C X.env) fp) G W0 k → PE (X.blk s H scope (compEnvC scope cl C X.env) fp) elt (wpE X.K G W0 me))
    (hin : t.ins (own.map (·.2)) = true := by decide) (hs : ∀ x, foldedSetIterable iter X.env x = pure x := by intro _; rfl) :
    PE X (.ListComp elt [⟨tg, iter, ifs, 0⟩] scope pos) (wpE X.K G W (mLc mi t tt me (own.map (·.2)))) :=
  pe_conv (pe_lc d.calm d.nd hi (blkOk_by ok) (fun s H C cl fp => hg s H C cl fp (d.blk ..)) (fun s H C cl fp => htt s H C cl fp (d.blk ..)) (fun s H C cl fp => he s H C cl fp (d.blk ..)) hs) (lc_ok (fun _ _ _ z => z) hin)
/-- name = [..] -/
theorem s_setLc {i : Nat} {y : Str} {py : Pos} {elt tg iter : Expr} {ifs : List Expr} {scope : Scope} {own : List (Str × Nat)} {pos spos : Pos} {mi : MIx} {t : Tg} {tt : MTs} {me : MEx} (d : DX X G W k) (hi : PI X tg iter (wpI X.K G W mi)) (ok : blkC X.N X.env.scope scope own = true)
    (hsw : swapsWith (.ListComp elt [⟨tg, iter, ifs, 0⟩] scope pos) (some (.Name y py)) spos.line X.env = pure true)
    (hg : ∀ (s : Shared) (H : Hp) (C : Addr) (cl : List (Str × Addr)) (fp : List Addr), DX (X.blk s H scope (compEnvC scope cl C X.env) fp) G W0 k → PG (X.blk s H scope (compEnvC scope cl C X.env) fp) tg (gTg X.K t))
    (htt : ∀ (s : Shared) (H : Hp) (C : Addr) (cl : List (Str × Addr)) (fp : List Addr), DX (X.blk s H scope (compEnvC scope cl C X.env) fp) G W0 k → PTs (X.blk s H scope (compEnvC scope cl C X.env) fp) ifs (wpT X.K G W0 tt))
    (he : ∀ (s : Shared) (H : Hp) (C : Addr) (cl : List (Str × Addr)) (fp : List Addr), DX (X.blk s H scope (compEnvC scope cl C X.env) fp) G W0 k → PE (X.blk s H scope (compEnvC scope cl C X.env) fp) elt (wpE X.K G W0 me))
    (hin : t.ins (own.map (·.2)) = true := by decide) (hy : X.N[i]? = some y := by rfl) (hyl : X.env.scope.names.lookup y = some .local := by rfl) (hs : ∀ x, foldedSetIterable iter X.env x = pure x := by intro _; rfl) :
    PS X (.Assign [.Name y py] (.ListComp elt [⟨tg, iter, ifs, 0⟩] scope pos) spos) (wpS X.K G W (sSet i (mLc mi t tt me (own.map (·.2))))) := by
  refine ps_conv (ps_setLc (i := i) d.calm d.nd hy hyl hsw hi (blkOk_by ok) (fun s H C cl fp => hg s H C cl fp (d.blk ..)) (fun s H C cl fp => htt s H C cl fp (d.blk ..)) (fun s H C cl fp => he s H C cl fp (d.blk ..)) hs) ?_
  rintro D σ H ⟨φ, ρ, S, em, rs, h⟩
  refine lc_ok (W := W) (fun _ _ _ z => z) hin σ H _ ⟨φ, ρ, S, em, rs, outR.st rs h fun v S1 φ1 y H1 x em1 rv h1 => ?_⟩
  exact h1 φ1 _ H1 .refl em1 ((rs.ext x).set i rv)
theorem ts_nil : PTs X [] (wpT X.K G W tYesM) := ⟨fun pins s σ H Q I ⟨φ, ρ, S, em, rs, h⟩ => pts_nil.run pins s σ H Q I (outR.ok (R := rT) h em rfl)⟩
theorem ts_one {c : Expr} {m : MTs} (h : PT X c (wpT X.K G W m)) : PTs X [c] (wpT X.K G W m) := pts_one h
end
end MP

set_option Elab.async false
set_option linter.all false
set_option maxRecDepth 100000
set_option maxHeartbeats 2000000
namespace MP
open PySem L2
section
variable {X : Cx} {G : Ga} {W : WX} {k : Nat}
/-! ### built-in functions by their values -/
def CallS (K : PySem.W.Frag) (G : Ga) (W : WX) (f : List D → Sto → Res D) (r : List V → Hp → VK → Prop) : Prop :=
  ∀ φ S σ H ds vs Q, Emb K G φ S H → RVs K G H φ ds vs → outR K G W (rE K G) (f ds S) φ σ H Q → r vs H Q
def mCB (f : List D → Sto → Res D) (ms : MAr) : MEx := fun ρ S => (ms ρ S).bind f
theorem cb {K : PySem.W.Frag} {f : List D → Sto → Res D} {r : List V → Hp → VK → Prop} {ms : MAr} (hs : CallS K G W f r) (σ : St) (H : Hp) (Q : VK) (h : wpE K G W (mCB f ms) σ H Q) : tCB r (wpA K G W ms) σ H Q := by
  obtain ⟨φ, ρ, S, em, rs, h⟩ := h
  refine ⟨φ, ρ, S, em, rs, h.bind fun ds S1 φ1 vs H1 x em1 rv h1 => ?_⟩
  exact hs φ1 S1 σ H1 ds vs Q em1 rv h1
theorem d_callB {x : Str} {id : String} {e : Expr} {es : List Expr} {f : List D → Sto → Res D} {r : List V → Hp → VK → Prop} {ms : MAr} {p pos : Pos} (hc : CallR X (.builtin id) r) (hs : CallS X.K G W f r) (hm : X.mg x = none) (ha : PA X (e :: es) (wpA X.K G W ms)) (hv : bootBuiltins x = some (.builtin id) := by decide +kernel) (hg : Gl X x := by rfl)
    (hn : x ≠ "__name__" := by decide) (hdb : (x == ("__debug__" : Str)) = false := by decide)
    (he : starEach (e :: es) X.env = (false, eval e X.env) :: starEach es X.env := by rfl) (hpl : (backTo pos (starEach es X.env)).any (·.1) = false := by rfl) : PE X (.Call (.Name x p) (e :: es) [] pos) (wpE X.K G W (mCB f ms)) :=
  pe_conv (pe_callB hc hg hm hv ha hn hdb he hpl) (cb hs)
theorem d_callT {x : Str} {T : String} {e : Expr} {es : List Expr} {f : List D → Sto → Res D} {r : List V → Hp → VK → Prop} {ms : MAr} {p pos : Pos} (hc : CallR X (.type T) r) (hs : CallS X.K G W f r) (hm : X.mg x = none) (ha : PA X (e :: es) (wpA X.K G W ms)) (hv : bootBuiltins x = some (.type T) := by decide +kernel) (hg : Gl X x := by rfl)
    (hn : x ≠ "__name__" := by decide) (hdb : (x == ("__debug__" : Str)) = false := by decide)
    (he : starEach (e :: es) X.env = (false, eval e X.env) :: starEach es X.env := by rfl) (hpl : (backTo pos (starEach es X.env)).any (·.1) = false := by rfl) : PE X (.Call (.Name x p) (e :: es) [] pos) (wpE X.K G W (mCB f ms)) :=
  pe_conv (pe_callTy hc hg hm hv ha hn hdb he hpl) (cb hs)
def lenO (o : Option (List D)) (S : Sto) : Res D := match o with
  | some xs => .ok (.int xs.length) S
  | none => .stuck
def cLen (ds : List D) (S : Sto) : Res D := match ds with
  | [.str z] => if z.length ≤ sizeLine then .ok (.int z.length) S else .stuck
  | [.loc l] => match S[l]? with
    | some (.lst xs) => .ok (.int xs.length) S
    | some (.dct false kvs) => .ok (.int kvs.length) S
    | _ => .stuck
  | [.vd ks _] => .ok (.int ks.length) S
  | [d] => lenO (items S d) S
  | _ => .stuck
def rLenU (K : PySem.W.Frag) : List V → Hp → VK → Prop := fun xs H Q => (∃ p ys, xs = [.ref p] ∧ (SqL K H p ys ∨ SqT K H p ys) ∧ Q (.int ys.length) H) ∨ (∃ z, xs = [.str z] ∧ z.length ≤ sizeLine ∧ Q (.int z.length) H) ∨ (∃ a kvs, xs = [V.ref a] ∧ H a = some (.dK kvs) ∧ Q (.int kvs.length) H)
theorem cr_lenU : CallR X (.builtin "len") (rLenU X.K) := call_len_seq.or (call_len_str.or call_lenD)
theorem s_len {K : PySem.W.Frag} : CallS K G W cLen (rLenU K) := by
  intro φ S σ H ds vs Q em r h
  unfold cLen at h
  split at h
  · split at h
    · rename_i hl
      cases r with
      | cons a b => cases b; cases a; exact .inr (.inl ⟨_, rfl, hl, outR.ok (R := rE K G) h em .int⟩)
    · exact h.elim
  · cases r with
    | cons a b =>
      cases b
      split at h
      · rename_i xs es
        obtain ⟨p, rfl, _, ro⟩ := em.at_loc es a
        obtain ⟨ws, sq, rv⟩ := ro.sql
        exact .inl ⟨p, ws, rfl, .inl sq, by rw [← RVs.length rv]; exact outR.ok (R := rE K G) h em .int⟩
      · rename_i kvs es
        obtain ⟨p, rfl, _, ro⟩ := em.at_loc es a
        cases ro with
        | dct e1 rk => exact .inr (.inr ⟨p, _, rfl, e1, by rw [← rk.length]; exact outR.ok (R := rE K G) h em .int⟩)
      · exact h.elim
  · cases r with
    | cons a b =>
      cases b
      cases a with
      | vd n e1 e2 rk hp =>
        refine .inr (.inr ⟨_, _, rfl, e1, ?_⟩)
        rw [← e2, List.length_map] at h
        exact outR.ok (R := rE K G) h em .int
  · unfold lenO at h
    split at h
    · rename_i xs es
      cases r with
      | cons a b =>
        cases b
        obtain ⟨p, vs, rfl, sq, rv⟩ := items_ok em a es
        exact .inl ⟨p, vs, rfl, sq, by rw [← RVs.length rv]; exact outR.ok (R := rE K G) h em .int⟩
    · exact h.elim
  · exact h.elim
def cAbs (ds : List D) (S : Sto) : Res D := match ds with
  | [.int i] => .ok (.int (if i < 0 then -i else i)) S
  | _ => .stuck
theorem s_abs {K : PySem.W.Frag} : CallS K G W cAbs (fun xs H Q => ∃ i, xs = [.int i] ∧ Q (.int (if i < 0 then -i else i)) H) := by
  intro φ S σ H ds vs Q em r h
  unfold cAbs at h
  split at h
  · cases r with
    | cons a b => cases b; cases a; exact ⟨_, rfl, outR.ok (R := rE K G) h em .int⟩
  · exact h.elim
def cMin (ds : List D) (S : Sto) : Res D := match ds with
  | [.int i, .int j] => .ok (.int (if j < i then j else i)) S
  | _ => .stuck
def cMax (ds : List D) (S : Sto) : Res D := match ds with
  | [.int i, .int j] => .ok (.int (if j > i then j else i)) S
  | _ => .stuck
theorem s_min {K : PySem.W.Frag} : CallS K G W cMin (fun xs H Q => ∃ i j, xs = [.int i, .int j] ∧ Q (.int (if j < i then j else i)) H) := by
  intro φ S σ H ds vs Q em r h
  unfold cMin at h
  split at h
  · cases r with
    | cons a b => cases b with
      | cons a' b => cases b; cases a; cases a'; exact ⟨_, _, rfl, outR.ok (R := rE K G) h em .int⟩
  · exact h.elim
theorem s_max {K : PySem.W.Frag} : CallS K G W cMax (fun xs H Q => ∃ i j, xs = [.int i, .int j] ∧ Q (.int (if j > i then j else i)) H) := by
  intro φ S σ H ds vs Q em r h
  unfold cMax at h
  split at h
  · cases r with
    | cons a b => cases b with
      | cons a' b => cases b; cases a; cases a'; exact ⟨_, _, rfl, outR.ok (R := rE K G) h em .int⟩
  · exact h.elim
def cInt (ds : List D) (S : Sto) : Res D := match ds with
  | [.int i] => .ok (.int i) S
  | [.bl b] => .ok (.int (if b then 1 else 0)) S
  | _ => .stuck
theorem s_intc {K : PySem.W.Frag} : CallS K G W cInt (fun xs H Q => (∃ i, xs = [.int i] ∧ Q (.int i) H) ∨ ∃ k, xs = [.bl k] ∧ Q (.int (if k then 1 else 0)) H) := by
  intro φ S σ H ds vs Q em r h
  unfold cInt at h
  split at h
  · cases r with
    | cons a b => cases b; cases a; exact .inl ⟨_, rfl, outR.ok (R := rE K G) h em .int⟩
  · cases r with
    | cons a b => cases b; cases a; exact .inr ⟨_, rfl, outR.ok (R := rE K G) h em .int⟩
  · exact h.elim
def cList (tr : Bool) (ds : List D) (S : Sto) : Res D := match ds with
  | [d] => match items S d with
    | some xs => newL tr xs S
    | none => .stuck
  | _ => .stuck
theorem s_list {K : PySem.W.Frag} {tr : Bool} : CallS K G W (cList tr) (fun xs H Q => ∃ p ys, xs = [.ref p] ∧ (SqL K H p ys ∨ SqT K H p ys) ∧ ∀ l, H l = none → Q (.ref l) (upd H l (.lst ys))) := by
  intro φ S σ H ds vs Q em r h
  unfold cList at h
  split at h
  · split at h
    · rename_i xs e
      cases r with
      | cons a b =>
        cases b
        obtain ⟨p, ws, rfl, hs, rv⟩ := items_ok em a e
        exact ⟨p, ws, rfl, hs, fun l hl => h.newL em rv hl⟩
    · exact h.elim
  · exact h.elim
def cTuple (ds : List D) (S : Sto) : Res D := match ds with
  | [d] => match items S d with
    | some xs => .ok (.tup xs) S
    | none => .stuck
  | _ => .stuck
theorem s_tuple {K : PySem.W.Frag} : CallS K G W cTuple (fun xs H Q => ∃ p ys, xs = [.ref p] ∧ ((SqL K H p ys ∧ ∀ l, H l = none → Q (.ref l) (upd H l (.tup ys))) ∨ (SqT K H p ys ∧ Q (.ref p) H))) := by
  intro φ S σ H ds vs Q em r h
  unfold cTuple at h
  split at h
  · split at h
    · rename_i xs e
      cases r with
      | cons a b =>
        cases b
        obtain ⟨p, ws, rfl, hs, rv⟩ := items_ok em a e
        refine ⟨p, ws, rfl, ?_⟩
        rcases hs with hs | hs
        · exact .inl ⟨hs, fun l hl => h φ _ _ (.other hl) (em.other hl) (.tup (.of upd_same) (RVs.ext (.other hl) rv))⟩
        · exact .inr ⟨hs, outR.ok (R := rE K G) h em (.tup hs rv)⟩
    · exact h.elim
  · exact h.elim
def cStr (ds : List D) (S : Sto) : Res D := match ds with
  | [.int i] => if i.natAbs.log2 < 1920 then .ok (.str (toString i)) S else .stuck
  | _ => .stuck
theorem s_strc {K : PySem.W.Frag} : CallS K G W cStr (fun xs H Q => ∃ i, xs = [.int i] ∧ i.natAbs.log2 < 1920 ∧ Q (.str (toString i)) H) := by
  intro φ S σ H ds vs Q em r h
  unfold cStr at h
  split at h
  · split at h
    · rename_i hl
      cases r with
      | cons a b => cases b; cases a; exact ⟨_, rfl, hl, outR.ok (R := rE K G) h em .str⟩
    · exact h.elim
  · exact h.elim
/-! ### isinstance -/
def D.ty (d : D) (S : Sto) : Option String := match d with
  | .non => some "NoneType" | .bl _ => some "bool" | .int _ => some "int" | .str _ => some "str" | .tup _ => some "tuple" | .vl _ => some "list" | .cl _ => some "list" | .vd _ _ => some "dict"
  | .loc l => match S[l]? with
    | some (.lst _) => some "list"
    | some (.dct _ _) => some "dict"
    | _ => none
  | .vo _ _ _ => none
def isT (a b : String) : Bool := a == b || (a == "bool" && b == "int")
theorem ty_lsv {K : PySem.W.Frag} {φ : List Addr} {H : Hp} {a : Addr} {vs : List V} (q : LsV K H φ a vs) : TyX K H (.ref a) (.type "list") := by
  rcases q with ⟨n, o, q⟩ | ⟨o, its, n, h1, h2, _⟩
  · exact .base (.frz q)
  · exact .kList h1 h2
theorem ty_ok {K : PySem.W.Frag} {φ : List Addr} {S : Sto} {H : Hp} {d : D} {v : V} {t : String} (em : Emb K G φ S H) (r : RV K G H φ d v) (h : d.ty S = some t) : TyX K H v (.type t) := by
  unfold D.ty at h
  split at h
  · cases r; cases h; exact .base .non
  · cases r; cases h; exact .base (.bl _)
  · cases r; cases h; exact .base (.int _)
  · cases r; cases h; exact .base (.str _)
  · cases r with
    | tup s q =>
      cases h
      rcases s with (s | ⟨o, s⟩) | ⟨o, its, n, h1, h2, _⟩
      · exact .base (.tup s)
      · exact .fTuple s
      · exact .kTuple h1 h2
  · cases r with
    | vl n q s p => cases h; exact .base (.lst q)
  · cases r with
    | cl q s p => cases h; exact ty_lsv q
  · cases r with
    | vd n e1 e2 rk hp => cases h; exact .base (.dK e1)
  · split at h
    · rename_i xs es
      cases h
      obtain ⟨a, rfl, _, ro⟩ := em.at_loc es r
      cases ro with
      | lst e1 _ => exact .base (.lst e1)
    · rename_i fz xs es
      cases h
      obtain ⟨a, rfl, _, ro⟩ := em.at_loc es r
      cases ro with
      | dct e1 _ => exact .base (.dK e1)
      | dctF e1 _ => exact .fDict e1
    · cases h
  · cases h
def isiR (T : String) (d : D) (S : Sto) : Res D := match d.ty S with
  | some t => .ok (.bl (isT t T)) S
  | none => .stuck
def mIsi (T : String) (m : MEx) : MEx := fun ρ S => (m ρ S).bind (isiR T)
theorem d_isi (T : String) {x : Str} {e : Expr} {m : MEx} {p p2 pos : Pos} (hmi : X.mg "isinstance" = none) (hm : X.mg x = none) (he : PE X e (wpE X.K G W m)) (hk : ∀ a, a ∈ ["NoneType", "bool", "int", "str", "tuple", "list", "dict"] → kitB a T = some (isT a T) := by decide +kernel)
    (hv : bootBuiltins x = some (.type T) := by decide +kernel) (hgi : Gl X "isinstance" := by rfl) (hg : Gl X x := by rfl) (hn : x ≠ "__name__" := by decide) (hdb : (x == ("__debug__" : Str)) = false := by decide)
    (hs : starEach (e :: [.Name x p2]) X.env = (false, eval e X.env) :: starEach [.Name x p2] X.env := by rfl) (hpl : (backTo pos (starEach [.Name x p2] X.env)).any (·.1) = false := by rfl) : PE X (.Call (.Name "isinstance" p) [e, .Name x p2] [] pos) (wpE X.K G W (mIsi T m)) := by
  refine pe_conv (pe_callB call_isi hgi hmi (by decide +kernel) (pa_cons he (pa_cons (pe_bltn (v := .ty T) hg hm hv rfl hn hdb) pa_nil) hs) (by decide) (by decide) hs hpl) ?_
  rintro σ H Q ⟨φ, ρ, S, em, rs, h⟩
  refine ⟨φ, ρ, S, em, rs, h.bind fun d S1 φ1 v H1 x1 em1 rv h1 => ?_⟩
  unfold isiR at h1
  split at h1
  · rename_i t ht
    have hin : t ∈ ["NoneType", "bool", "int", "str", "tuple", "list", "dict"] := by
      unfold D.ty at ht
      split at ht <;> first | (cases ht; decide) | (cases ht; done) | (split at ht <;> first | (cases ht; decide) | cases ht)
    exact ⟨v, .ty T, .type t, .type T, isT t T, rfl, .ty T, ty_ok em1 rv ht, kit_ty (hk t hin), outR.ok (R := rE X.K G) h1 em1 .bl⟩
  · exact h1.elim
/-! ### methods of lists -/
def MetS (K : PySem.W.Frag) (G : Ga) (W : WX) (f : D → List D → Sto → Res D) (r : V → List V → Hp → VK → Prop) : Prop :=
  ∀ φ S σ H d ds v vs Q, Emb K G φ S H → RV K G H φ d v → RVs K G H φ ds vs → outR K G W (rE K G) (f d ds S) φ σ H Q → r v vs H Q
def isL (d : D) (S : Sto) : Bool := (lstO S d).isSome
def mBM (p : D → Sto → Bool) (f : D → List D → Sto → Res D) (mo : MEx) (ms : MAr) : MEx := fun ρ S => (mo ρ S).bind fun d S1 => if p d S1 = true then (ms ρ S1).bind fun ds S2 => f d ds S2 else .stuck
theorem tyL {K : PySem.W.Frag} {φ : List Addr} {S : Sto} {H : Hp} {d : D} {v : V} (em : Emb K G φ S H) (r : RV K G H φ d v) (h : isL d S = true) : tyV K "list" v H := by
  unfold isL at h
  obtain ⟨xs, e⟩ := Option.isSome_iff_exists.mp h
  obtain ⟨a, vs, rfl, sq, _⟩ := lst_ok em r e
  exact .inl ⟨rfl, vs, sq⟩
theorem d_bm {T id : String} {name : Str} {o e : Expr} {es : List Expr} {f : D → List D → Sto → Res D} {r : V → List V → Hp → VK → Prop} {pp : D → Sto → Bool} {mo : MEx} {ms : MAr} {apos cpos : Pos} (pa : PlainAttrs T) (slot : Slot T name id) (hty : typeOf (.builtin id) = pure (.type "method_descriptor")) (hm : MtR X id r) (hs : MetS X.K G W f r)
    (htv : ∀ φ S H d v, Emb X.K G φ S H → RV X.K G H φ d v → pp d S = true → tyV X.K T v H) (ho : PE X o (wpE X.K G W mo)) (ha : PA X (e :: es) (wpA X.K G W ms))
    (hbase : attributeBase o name X.env (eval o X.env) = eval o X.env := by rfl)
    (hfew : ((backTo cpos (starEach (e :: es) X.env)).all (fun x => !x.1) && (backToKw cpos (keywordEach [] X.env)).all (fun x => x.1.isSome)
      && decide ((e :: es).length + ([] : List Keyword).length + (if ([] : List Keyword).isEmpty then 0 else 1) < 30)) = true := by rfl)
    (hline : (apos.endLine == cpos.line) = true := by rfl) (hst : starEach (e :: es) X.env = (false, eval e X.env) :: starEach es X.env := by rfl) (hplain : (backTo cpos (starEach es X.env)).any (·.1) = false := by rfl) :
    PE X (.Call (.Attribute o name apos) (e :: es) [] cpos) (wpE X.K G W (mBM pp f mo ms)) := by
  refine pe_conv (pe_bm pa slot hty hm ho ha hbase hfew hline hst hplain) ?_
  rintro σ H Q ⟨φ, ρ, S, em, rs, h⟩
  refine ⟨φ, ρ, S, em, rs, h.bind fun d S1 φ1 v H1 x1 em1 rv h1 => ?_⟩
  split at h1
  · rename_i hp
    refine ⟨htv _ _ _ _ _ em1 rv hp, φ1, ρ, S1, em1, rs.ext x1, h1.bind fun ds S2 φ2 vs H2 x2 em2 rvs h2 => ?_⟩
    exact hs φ2 S2 σ H2 d ds v vs Q em2 (RV.ext x2 rv) rvs h2
  · exact h1.elim
/-- a list is rewritten -/
theorem lst_write {K : PySem.W.Frag} {φ : List Addr} {S : Sto} {H : Hp} {l : Nat} {a : Addr} {xs ys : List D} {vs ws : List V} (em : Emb K G φ S H) (es : S[l]? = some (.lst xs)) (ha : φ[l]? = some a) (e1 : H a = some (.lst vs)) (rv : RVs K G H φ ys ws) :
    Ext φ H φ (upd H a (.lst ws)) ∧ Emb K G φ (S.set l (.lst ys)) (upd H a (.lst ws)) := by
  have n1 : ∀ xs, HO.lst vs ≠ .tup xs := fun _ z => nomatch z
  have n2 : ∀ ob w, HO.lst vs ≠ .frz ob w := fun _ _ z => nomatch z
  have xa : Ext φ H φ (upd H a (.lst ws)) := .at ha e1 n1 n2
  exact ⟨xa, em.set es ha e1 n1 n2 (.lst upd_same (RVs.ext xa rv))⟩
def lAppend (d : D) (ds : List D) (S : Sto) : Res D := match d, ds with
  | .loc l, [y] => match S[l]? with
    | some (.lst xs) => if xs.length < sizeLine then .ok .non (S.set l (.lst (xs ++ [y]))) else .stuck
    | _ => .stuck
  | _, _ => .stuck
theorem s_append {K : PySem.W.Frag} : MetS K G W lAppend rAppend := by
  intro φ S σ H d ds v vs Q em r rs h
  unfold lAppend at h
  split at h
  · split at h
    · rename_i l y xs es
      split at h
      · rename_i hl
        cases rs with
        | @cons _ yv _ _ ry rn =>
          cases rn
          obtain ⟨a, rfl, ha, ro⟩ := em.at_loc es r
          obtain ⟨ws, e1, rv⟩ := ro.lstM
          obtain ⟨xa, em2⟩ := lst_write em es ha e1 (RVs.append rv (.cons ry .nil))
          exact ⟨a, ws, yv, rfl, rfl, e1, by rw [← RVs.length rv]; exact hl, h φ .non _ xa em2 .non⟩
      · exact h.elim
    · exact h.elim
  · exact h.elim
/-- extend -/
def extO (l : Nat) (xs : List D) (o : Option (List D)) (S : Sto) : Res D := match o with
  | some ys => if xs.length + ys.length ≤ sizeLine then .ok .non (S.set l (.lst (xs ++ ys))) else .stuck
  | none => .stuck
def lExtend (d : D) (ds : List D) (S : Sto) : Res D := match d, ds with
  | .loc l, [m] => match S[l]? with
    | some (.lst xs) => extO l xs (lsmO S m) S
    | _ => .stuck
  | _, _ => .stuck
theorem s_extend {K : PySem.W.Frag} : MetS K G W lExtend rExtend := by
  intro φ S σ H d ds v vs Q em r rs h
  unfold lExtend at h
  split at h
  · split at h
    · rename_i l m xs es
      unfold extO at h
      split at h
      · rename_i ys es2
        split at h
        · rename_i hl
          cases rs with
          | @cons _ yv _ _ ry rn =>
            cases rn
            obtain ⟨a, rfl, ha, ro⟩ := em.at_loc es r
            obtain ⟨b, zs, rfl, e2, rv2⟩ := lsm_ok em ry es2
            obtain ⟨ws, e1, rv⟩ := ro.lstM
            obtain ⟨xa, em2⟩ := lst_write em es ha e1 (RVs.append rv rv2)
            exact ⟨a, b, ws, zs, rfl, rfl, e1, e2, by rw [← RVs.length rv, ← RVs.length rv2]; exact hl, h φ .non _ xa em2 .non⟩
        · exact h.elim
      · exact h.elim
    · exact h.elim
  · exact h.elim
theorem RVs.erase {K : PySem.W.Frag} {H : Hp} {φ : List Addr} : ∀ {ds : List D} {vs : List V} (i : Nat), RVs K G H φ ds vs → RVs K G H φ (ds.eraseIdx i) (vs.eraseIdx i)
  | _, _, _, .nil => .nil
  | _, _, 0, .cons _ b => b
  | _, _, i + 1, .cons a b => .cons a (RVs.erase i b)
def lPopAt (d : D) (ds : List D) (S : Sto) : Res D := match d, ds with
  | .loc l, [.int i] => match S[l]? with
    | some (.lst xs) => if -(2 ^ 63) ≤ i ∧ i < 2 ^ 63 then match seqIndex? i xs.length with
      | some j => match xs[j]? with
        | some y => .ok y (S.set l (.lst (xs.eraseIdx j)))
        | none => .stuck
      | none => .stuck
      else .stuck
    | _ => .stuck
  | _, _ => .stuck
theorem s_popAt {K : PySem.W.Frag} : MetS K G W lPopAt rPopAt := by
  intro φ S σ H d ds v vs Q em r rs h
  unfold lPopAt at h
  split at h
  · split at h
    · rename_i l i xs es
      split at h
      · rename_i hi
        split at h
        · rename_i j hj
          split at h
          · rename_i y hy
            cases rs with
            | cons ry rn =>
              cases rn
              cases ry
              obtain ⟨a, rfl, ha, ro⟩ := em.at_loc es r
              obtain ⟨ws, e1, rv⟩ := ro.lstM
              obtain ⟨w, ew, rw'⟩ := RVs.get rv hy
              obtain ⟨xa, em2⟩ := lst_write em es ha e1 (RVs.erase j rv)
              exact ⟨a, ws, _, j, w, rfl, rfl, e1, hi.1, hi.2, by rw [← RVs.length rv]; exact hj, ew, h φ w _ xa em2 (RV.ext xa rw')⟩
          · exact h.elim
        · exact h.elim
      · exact h.elim
    · exact h.elim
  · exact h.elim
end
/-! ### the end of a law -/
/-- the script as it is handed in -/
def scr (ns : List Int) : D := .cl (ns.map .int)
theorem sp_law {K : PySem.W.Frag} {G : Ga} {mf : MFn} {H : Hp} {a : Addr} {ns : List Int} (hO : Only H) (hS : SqL K H a (ns.map V.int)) (h : ∃ S', mf [scr ns] [] = .ok (.bl true) S') : SpM K G mf 1 [.ref a] H (fun v _ => v = .bl true) fun _ _ _ => False := by
  obtain ⟨S', e⟩ := h
  have ls : LsV K H [] a (ns.map V.int) := by
    rcases hS with (hS | ⟨o, hS⟩) | hS
    · rcases hO a with z | ⟨o, xs, z⟩
      · rw [z] at hS; cases hS
      · rw [z] at hS; cases hS
    · exact .inl ⟨by simp, o, hS⟩
    · exact .inr hS
  refine ⟨[], [], [scr ns], ⟨rfl, fun l l' b e1 e2 => by simp at e1, fun l o b e1 e2 => by simp at e2⟩, .cons (.cl ls RVs.ints pureAll_ints) .nil, rfl, ?_⟩
  rw [e]
  intro φ' v H' _ _ rv
  cases rv
  rfl
end MP

set_option Elab.async false
set_option linter.all false
set_option maxRecDepth 100000
set_option maxHeartbeats 4000000
namespace MP
open PySem L2
section
variable {X : Cx} {G : Ga} {W : WX} {k : Nat}
/-! ### a def that is read off its class by the class's name -/
structure FnU (P : Program) (w : World) (K : PySem.W.Frag) (mg : Str → Option Value) (base : Heap) (G : Ga) (k : Nat) (c : Cl) (m : Str) (mf : MFn) (n : Nat) : Prop where
  ex : ∃ f fd ps, FnOk P w K mg base (L2.CX P w) k f fd ps (SpM K G mf n) ∧ ClX.CRead K (G.cl c) (.type "type") ∧ PySem.W.findCls K (.ref (G.cl c)) (.type "type") m = some (.val (.ref f)) ∧ mg c.nm = some (.ref (G.cl c)) ∧ PySem.W.keepIn K (.ref f) = true ∧ Binds K fd ps []
def tUCall (C : Addr) (sp : Sp) (E : St → XK) (ta : TE) (t : TA) : TE := fun σ H Q => ta σ H fun x H1 => x = .ref C ∧ t σ H1 fun vs H2 => sp vs H2 Q (E σ)
theorem pe_ucall {CX : CXT} {C f : Addr} {fd : FuncData} {ps : List Str} {sp : Sp} {E : St → XK} {m : Str} {o e : Expr} {es : List Expr} {ta : TE} {t : TA} {apos pos : Pos} {pl : Sem Bool} (he : PE X o ta) (r : ClX.CRead X.K C (.type "type")) (c : PySem.W.findCls X.K (.ref C) (.type "type") m = some (.val (.ref f)))
    (F : FnOk X.prog X.w X.K X.mg X.base CX k f fd ps sp) (hr : Room k X.A) (hk : PySem.W.keepIn X.K (.ref f) = true) (hb : Binds X.K fd ps []) (hx : ∀ σ, PassesAt CX X σ (E σ)) (ha : PA X (e :: es) t)
    (hst : starEach (e :: es) X.env = (false, eval e X.env) :: starEach es X.env := by rfl) (hpl : (backTo pos (starEach es X.env)).any (·.1) = false := by rfl)
    (ht : eval (.Call (.Attribute o m apos) (e :: es) [] pos) X.env = (do
      let ov ← eval o X.env
      standAt apos.atName
      let (f, first) ← holding [ov] (getMethod ov m pl)
      callWith pos f first (backTo pos (starEach (e :: es) X.env)) (backToKw pos (keywordEach [] X.env))) := by rfl) :
    PE X (.Call (.Attribute o m apos) (e :: es) [] pos) (tUCall C sp E ta t) := by
  refine ⟨fun pins s σ H Q I h => ?_⟩
  refine PySem.W.methodCall_KW (pl := pl) (thn (he.run pins s σ H _ I h) fun u s1 ⟨x, H1, I1, rx, ex, q⟩ => ?_) ht
  subst ex
  obtain rfl : u = Value.ref C := rx
  refine PySem.W.method_cls I1.kIn r.ga (PySem.W.cls_value I1.kIn r.rd c rfl ?_)
  have I2 := I1.tok (s1.toks + 1)
  refine PySem.W.callWith_K (h₀ := X.base) I1.ok.mod.kin hk (thn (ha.run pos pins _ σ H1 _ I2 q) fun us s3 ⟨vs, H2, I3, rv, q2⟩ => ⟨I3.kIn, ?_⟩) hst hpl
  exact run_fnS F hr hb (hx σ) I3 rv q2
theorem d_ucall {c : Cl} {m : Str} {e : Expr} {es : List Expr} {j n : Nat} {mf : MFn} {ms : MAr} {p apos pos : Pos} {pl : Sem Bool} (F : FnU X.prog X.w X.K X.mg X.base G j c m mf n) (d : DX X G W k) (ha : PA X (e :: es) (wpA X.K G W ms)) (hj : j ≤ k := by decide) (hg : Gl X c.nm := by rfl)
    (hdb : (c.nm == ("__debug__" : Str)) = false := by decide) (hst : starEach (e :: es) X.env = (false, eval e X.env) :: starEach es X.env := by rfl) (hpl : (backTo pos (starEach es X.env)).any (·.1) = false := by rfl)
    (ht : eval (.Call (.Attribute (.Name c.nm p) m apos) (e :: es) [] pos) X.env = (do
      let ov ← eval (.Name c.nm p) X.env
      standAt apos.atName
      let (f, first) ← holding [ov] (getMethod ov m pl)
      callWith pos f first (backTo pos (starEach (e :: es) X.env)) (backToKw pos (keywordEach [] X.env))) := by rfl) :
    PE X (.Call (.Attribute (.Name c.nm p) m apos) (e :: es) [] pos) (wpE X.K G W (mCall n mf ms)) := by
  obtain ⟨f, fd, ps, hF, hc, hfi, hm, hk, hb⟩ := F.ex
  refine pe_conv (pe_ucall (pl := pl) (pe_glob hg hm (v := .ref (G.cl c)) rfl hdb) hc hfi hF (d.hr.mono hj) hk hb (fun σ => passAt d.tk σ) ha hst hpl ht) ?_
  rintro σ H Q ⟨φ, ρ, S, em, rs, h⟩
  refine ⟨rfl, φ, ρ, S, em, rs, h.bind fun ds S1 φ1 vs H1 x em1 rv h1 => ?_⟩
  split at h1
  · rename_i hl
    exact ⟨φ1, S1, ds, em1, rv, hl, h1.resig fun _ _ _ z => z⟩
  · exact h1.elim
/-! ### methods of lists without arguments -/
def Met0 (K : PySem.W.Frag) (G : Ga) (W : WX) (f : D → Sto → Res D) (r : V → List V → Hp → VK → Prop) : Prop :=
  ∀ φ S σ H d v Q, Emb K G φ S H → RV K G H φ d v → outR K G W (rE K G) (f d S) φ σ H Q → r v [] H Q
def mBM0 (p : D → Sto → Bool) (f : D → Sto → Res D) (mo : MEx) : MEx := fun ρ S => (mo ρ S).bind fun d S1 => if p d S1 = true then f d S1 else .stuck
theorem d_bm0 {T id : String} {name : Str} {o : Expr} {f : D → Sto → Res D} {r : V → List V → Hp → VK → Prop} {pp : D → Sto → Bool} {mo : MEx} {apos cpos : Pos} (pa : PlainAttrs T) (slot : Slot T name id) (hty : typeOf (.builtin id) = pure (.type "method_descriptor")) (hm : MtR X id r) (hs : Met0 X.K G W f r)
    (htv : ∀ φ S H d v, Emb X.K G φ S H → RV X.K G H φ d v → pp d S = true → tyV X.K T v H) (ho : PE X o (wpE X.K G W mo)) (hbase : attributeBase o name X.env (eval o X.env) = eval o X.env := by rfl) (hline : (apos.endLine == cpos.line) = true := by rfl) :
    PE X (.Call (.Attribute o name apos) [] [] cpos) (wpE X.K G W (mBM0 pp f mo)) := by
  refine pe_conv (pe_bm0 pa slot hty hm ho hbase hline) ?_
  rintro σ H Q ⟨φ, ρ, S, em, rs, h⟩
  refine ⟨φ, ρ, S, em, rs, h.bind fun d S1 φ1 v H1 x1 em1 rv h1 => ?_⟩
  split at h1
  · rename_i hp
    exact ⟨htv _ _ _ _ _ em1 rv hp, hs φ1 S1 σ H1 d v Q em1 rv h1⟩
  · exact h1.elim
def lClear (d : D) (S : Sto) : Res D := match d with
  | .loc l => match S[l]? with
    | some (.lst _) => .ok .non (S.set l (.lst []))
    | _ => .stuck
  | _ => .stuck
theorem s_clear {K : PySem.W.Frag} : Met0 K G W lClear rClear := by
  intro φ S σ H d v Q em r h
  unfold lClear at h
  split at h
  · split at h
    · rename_i l xs es
      obtain ⟨a, rfl, ha, ro⟩ := em.at_loc es r
      obtain ⟨ws, e1, rv⟩ := ro.lstM
      obtain ⟨xa, em2⟩ := lst_write em es ha e1 (.nil : RVs K G H φ [] [])
      exact ⟨a, ws, rfl, rfl, e1, h φ .non _ xa em2 .non⟩
    · exact h.elim
  · exact h.elim
/-! ### isinstance against an own class -/
structure IsO (K : PySem.W.Frag) (mg : Str → Option Value) (G : Ga) (c : Cl) (tab : List (Cl × Bool)) : Prop where
  nm : mg c.nm = some (.ref (G.cl c))
  ty : ∀ t, t ∈ ["NoneType", "bool", "int", "str", "tuple", "list", "dict"] → PySem.W.kitOne K (.type t) (.ref (G.cl c)) = some false
  hn : PySem.W.specialIn K (.builtin "object.__class__") "__get__" = some (some (.builtin "getset_descriptor.__get__"))
  tk : PySem.W.takesIn K (.builtin "object.__class__") = some true
  own : ∀ c' b, (c', b) ∈ tab → PySem.W.kitOne K (.ref (G.cl c')) (.ref (G.cl c)) = some b ∧ Cls K (G.cl c') ∧ PySem.W.findIn K (.ref (G.cl c')) "__class__" = some (some (.builtin "object.__class__")) ∧ PySem.W.mroIn K (G.cl c') (.type "object") = some true
def isoF (tab : List (Cl × Bool)) (c : Cl) (S : Sto) : Res D := match tab.find? (fun x => decide (x.1 = c)) with
  | some x => .ok (.bl x.2) S
  | none => .stuck
def isoR (tab : List (Cl × Bool)) (d : D) (S : Sto) : Res D := match d.ty S with
  | some _ => .ok (.bl false) S
  | none => match d with
    | .loc l => match S[l]? with
      | some (.ins c _) => isoF tab c S
      | _ => .stuck
    | .vo c _ _ => isoF tab c S
    | _ => .stuck
def mIso (tab : List (Cl × Bool)) (m : MEx) : MEx := fun ρ S => (m ρ S).bind (isoR tab)
theorem ty_in {d : D} {S : Sto} {t : String} (h : d.ty S = some t) : t ∈ ["NoneType", "bool", "int", "str", "tuple", "list", "dict"] := by
  unfold D.ty at h
  split at h <;> first | (cases h; decide) | (cases h; done) | (split at h <;> first | (cases h; decide) | cases h)
theorem d_iso {c : Cl} {tab : List (Cl × Bool)} {e : Expr} {m : MEx} {p p2 pos : Pos} (hmi : X.mg "isinstance" = none) (io : IsO X.K X.mg G c tab) (he : PE X e (wpE X.K G W m)) (hgi : Gl X "isinstance" := by rfl) (hg : Gl X c.nm := by rfl)
    (hdb : (c.nm == ("__debug__" : Str)) = false := by decide) (hs : starEach (e :: [.Name c.nm p2]) X.env = (false, eval e X.env) :: starEach [.Name c.nm p2] X.env := by rfl) (hpl : (backTo pos (starEach [.Name c.nm p2] X.env)).any (·.1) = false := by rfl) :
    PE X (.Call (.Name "isinstance" p) [e, .Name c.nm p2] [] pos) (wpE X.K G W (mIso tab m)) := by
  refine pe_conv (pe_callB call_isi hgi hmi (by decide +kernel) (pa_cons he (pa_cons (pe_glob (v := .ref (G.cl c)) hg io.nm rfl hdb) pa_nil) hs) (by decide) (by decide) hs hpl) ?_
  rintro σ H Q ⟨φ, ρ, S, em, rs, h⟩
  refine ⟨φ, ρ, S, em, rs, h.bind fun d S1 φ1 v H1 x em1 rv h1 => ?_⟩
  unfold isoR at h1
  split at h1
  · rename_i t ht
    exact ⟨v, .ref (G.cl c), .type t, .ref (G.cl c), false, rfl, .own _, ty_ok em1 rv ht, io.ty t (ty_in ht), outR.ok (R := rE X.K G) h1 em1 .bl⟩
  · have fin : ∀ (c' : Cl) a dx fs, v = .ref a → H1 a = some (.ins (G.cl c') dx fs) → outR X.K G W (rE X.K G) (isoF tab c' S1) φ1 σ H1 Q → ∃ x c_1 t u b, [v, V.ref (G.cl c)] = [x, c_1] ∧ ClsV c_1 u ∧ TyX X.K H1 x t ∧ PySem.W.kitOne X.K t u = some b ∧ Q (V.bl b) H1 := by
      intro c' a dx fs ev e1 h2
      unfold isoF at h2
      split at h2
      · rename_i y ey
        obtain ⟨c2, b⟩ := y
        have hc : c2 = c' := by
          have z := List.find?_some (p := fun x : Cl × Bool => decide (x.1 = c')) ey
          exact of_decide_eq_true z
        subst hc
        obtain ⟨k1, k2, k3, k4⟩ := io.own c2 b (List.mem_of_find?_eq_some ey)
        subst ev
        exact ⟨.ref a, .ref (G.cl c), .ref (G.cl c2), .ref (G.cl c), b, rfl, .own _, .base (.ins e1 k2 k3 io.hn io.tk k4), k1, outR.ok (R := rE X.K G) h2 em1 .bl⟩
      · exact h2.elim
    split at h1
    · split at h1
      · rename_i l c' fs es
        obtain ⟨a, rfl, ha, ro⟩ := em1.at_loc es rv
        cases ro with
        | ins e1 rk hh hall => exact fin c' a _ _ rfl e1 h1
      · exact h1.elim
    · cases rv with
      | vo n e1 => exact fin _ _ _ _ rfl e1 h1
    · exact h1.elim
/-! ### a def that calls itself: no depth, no promise -/
theorem ok_never {P : Program} {w : World} {K : PySem.W.Frag} {mg : Str → Option Value} {base : Heap} {k : Nat} {f : Addr} {fd : FuncData} {ps : List Str} {n : Nat} : FnOk P w K mg base (L2.CX P w) k f fd ps (SpM K G (fun _ _ => .stuck) n) :=
  ⟨fun vs H Q E h => by obtain ⟨φ, S, ds, _, _, _, h⟩ := h; exact h.elim, fun A outer s H args us vs Q E _ _ _ _ h => by obtain ⟨φ, S, ds, _, _, _, h⟩ := h; exact h.elim⟩
end
end MP

set_option Elab.async false
set_option linter.all false
set_option maxRecDepth 100000
set_option maxHeartbeats 4000000
namespace MP
open PySem L2
section
variable {X : Cx} {G : Ga} {W : WX} {k : Nat}
/-! ### a tuple of texts at the top of the text -/
structure GlT (K : PySem.W.Frag) (mg : Str → Option Value) (x : Str) (ys : List Str) : Prop where
  ex : ∃ (p : Addr) (its : Array Value) (n : Nat) (sl : Array (Option Value)), mg x = some (.ref p) ∧ K.lookup p = some ⟨.type "tuple", none, .seq its n, sl⟩ ∧ its.size ≤ sizeLine ∧ Vals (ys.map V.str) its.toList
theorem rvs_strs {K : PySem.W.Frag} {H : Hp} {φ : List Addr} : ∀ {ys : List Str}, RVs K G H φ (ys.map D.str) (ys.map V.str)
  | [] => .nil
  | _ :: _ => .cons .str rvs_strs
theorem GlT.c {K : PySem.W.Frag} {G : Ga} {mg : Str → Option Value} {x : Str} {ys : List Str} (g : GlT K mg x ys) : GlC K G mg x (.tup (ys.map .str)) := by
  obtain ⟨p, its, n, sl, h1, h2, h3, h4⟩ := g.ex
  exact ⟨.ref p, .ref p, h1, rfl, fun H φ => .tup (.inr ⟨_, its, n, h2, rfl, rfl, h3, h4⟩) rvs_strs⟩
theorem glc_str {K : PySem.W.Frag} {mg : Str → Option Value} {x z : Str} {t : Tok} (h : mg x = some (.str z t)) : GlC K G mg x (.str z) := ⟨_, .str z, h, ⟨t, rfl⟩, fun _ _ => .str⟩
theorem glc_int {K : PySem.W.Frag} {mg : Str → Option Value} {x : Str} {i : Int} {t : Tok} (h : mg x = some (.int i t)) : GlC K G mg x (.int i) := ⟨_, .int i, h, ⟨t, rfl⟩, fun _ _ => .int⟩
/-- SORTS.index(e) -/
def tIndex (ys : List Str) (ds : List D) (S : Sto) : Res D := match ds with
  | [.str z] => match ys.findIdx? (fun y => decide (y = z)) with
    | some j => .ok (.int (j : Nat)) S
    | none => .stuck
  | _ => .stuck
def mTix (ys : List Str) (ms : MAr) : MEx := fun ρ S => (ms ρ S).bind (tIndex ys)
theorem d_tix {x : Str} {ys : List Str} {e : Expr} {ms : MAr} {p apos cpos : Pos} (g : GlT X.K X.mg x ys) (ha : PA X [e] (wpA X.K G W ms)) (hg : Gl X x := by rfl) (hd : (x == ("__debug__" : Str)) = false := by decide)
    (hbase : attributeBase (.Name x p) "index" X.env (eval (.Name x p) X.env) = eval (.Name x p) X.env := by rfl)
    (hfew : ((backTo cpos (starEach [e] X.env)).all (fun x => !x.1) && (backToKw cpos (keywordEach [] X.env)).all (fun x => x.1.isSome)
      && decide (([e] : List Expr).length + ([] : List Keyword).length + (if ([] : List Keyword).isEmpty then 0 else 1) < 30)) = true := by rfl)
    (hline : (apos.endLine == cpos.line) = true := by rfl) (hst : starEach [e] X.env = (false, eval e X.env) :: starEach [] X.env := by rfl) (hplain : (backTo cpos (starEach [] X.env)).any (·.1) = false := by rfl) :
    PE X (.Call (.Attribute (.Name x p) "index" apos) [e] [] cpos) (wpE X.K G W (mTix ys ms)) := by
  obtain ⟨q, its, n, sl, h1, h2, h3, h4⟩ := g.ex
  refine pe_conv (pe_bm PySem.F.plainAttrs_tuple PySem.F.slot_tuple_index PySem.F.type_tuple_index mt_tup_index (pe_glob hg h1 (v := .ref q) rfl hd) ha hbase hfew hline hst hplain) ?_
  rintro σ H Q ⟨φ, ρ, S, em, rs, h⟩
  refine ⟨.inr (.inl ⟨rfl, _, h2, rfl, rfl⟩), φ, ρ, S, em, rs, h.bind fun ds S1 φ1 vs H1 x1 em1 rvs h1' => ?_⟩
  unfold tIndex at h1'
  split at h1'
  · rename_i z
    split at h1'
    · rename_i j hj
      obtain ⟨hl, e1, e2⟩ := List.findIdx?_eq_some_iff_getElem.mp hj
      cases (show RVs X.K G H1 φ1 _ vs from rvs) with
      | cons a b =>
        cases a; cases b
        refine ⟨q, ys, z, j, rfl, rfl, .inr ⟨_, its, n, h2, rfl, rfl, h3, h4⟩, ?_, ?_, outR.ok (R := rE X.K G) h1' em1 .int⟩
        · rw [List.getElem?_eq_getElem hl, of_decide_eq_true e1]
        · intro m hm z2
          obtain ⟨hl2, e3⟩ := List.getElem?_eq_some_iff.mp z2
          have := e2 m hm
          rw [e3] at this
          simp at this
    · exact h1'.elim
  · exact h1'.elim
/-- xs.index(e), flat things in a list -/
def lIndex (d : D) (ds : List D) (S : Sto) : Res D := match lstO S d, ds with
  | some xs, [y] => if flatD y = true ∧ xs.all flatD = true then match xs.findIdx? (fun z => eqFlat z y) with
      | some j => .ok (.int (j : Nat)) S
      | none => .stuck
      else .stuck
  | _, _ => .stuck
theorem s_index {K : PySem.W.Frag} : MetS K G W lIndex (rIndex K) := by
  intro φ S σ H d ds v vs Q em r rs h
  unfold lIndex at h
  split at h
  · rename_i xs y es
    split at h
    · rename_i hf
      split at h
      · rename_i j hj
        obtain ⟨hl, e1, e2⟩ := List.findIdx?_eq_some_iff_getElem.mp hj
        obtain ⟨a, ws, rfl, sq, rv⟩ := lst_ok em r es
        cases rs with
        | @cons _ yv _ _ ry rn =>
          cases rn
          obtain ⟨z, ez, rz⟩ := RVs.get rv (List.getElem?_eq_getElem hl)
          have hall := List.all_eq_true.mp hf.2
          refine ⟨a, ws, yv, j, z, rfl, rfl, sq, flat_ok ry hf.1, flat_all rv hf.2, ez, ?_, ?_, outR.ok (R := rE K G) h em .int⟩
          · rw [eqFlat_ok rz ry (hall _ (List.getElem_mem hl)) hf.1]; exact e1
          · intro m z' hm ez'
            have hm2 : m < xs.length := by omega
            obtain ⟨z2, ez2, rz2⟩ := RVs.get rv (List.getElem?_eq_getElem hm2)
            rw [ez'] at ez2
            cases ez2
            rw [eqFlat_ok rz2 ry (hall _ (List.getElem_mem hm2)) hf.1]
            exact Bool.eq_false_iff.mpr (e2 m hm)
      · exact h.elim
    · exact h.elim
  · exact h.elim
end
end MP

set_option Elab.async false
set_option linter.all false
set_option maxRecDepth 100000
set_option maxHeartbeats 4000000
namespace MP
open PySem L2
section
variable {X : Cx} {G : Ga} {W : WX} {k : Nat}
/-! ### dicts of ints and texts -/
def keyD : D → Option Key
  | .int i => some (.inl i)
  | .str z => some (.inr z)
  | _ => none
def valD (kvs : List (Key × D)) (k : Key) : Option D := (kvs.find? fun kv => decide (kv.1 = k)).map (·.2)
def putD (kvs : List (Key × D)) (k : Key) (v : D) : List (Key × D) :=
  if (kvs.any fun kv => decide (kv.1 = k)) = true then kvs.map (fun kv => if kv.1 = k then (kv.1, v) else kv) else kvs ++ [(k, v)]
def dropD (kvs : List (Key × D)) (k : Key) : List (Key × D) := kvs.filter fun kv => decide (kv.1 ≠ k)
theorem keyD_ok {K : PySem.W.Frag} {H : Hp} {φ : List Addr} {d : D} {v : V} {k : Key} (r : RV K G H φ d v) (h : keyD d = some k) : v = kV k := by
  cases r <;> cases h <;> rfl
theorem RKs.val {K : PySem.W.Frag} {H : Hp} {φ : List Addr} {kvs : List (Key × D)} {vs : List (Key × V)} (r : RKs K G H φ id kvs vs) (k : Key) : (∀ d, valD kvs k = some d → ∃ v, valV vs k = some v ∧ RV K G H φ d v) ∧ (valD kvs k = none → valV vs k = none) := by
  induction r with
  | nil => exact ⟨fun d h => (by cases h), fun _ => rfl⟩
  | @cons k' d' v' ds vs a b ih =>
    by_cases hk : k' = k
    · constructor
      · intro d h
        have e : valD ((k', d') :: ds) k = some d' := by simp [valD, List.find?_cons, hk]
        rw [e] at h
        cases h
        exact ⟨v', by simp [valV, List.find?_cons, hk], a⟩
      · intro h
        simp [valD, List.find?_cons, hk] at h
    · have e1 : valD ((k', d') :: ds) k = valD ds k := by simp [valD, List.find?_cons, hk]
      have e2 : valV ((id k', v') :: vs) k = valV vs k := by simp [valV, List.find?_cons, hk]
      rw [e1, e2]
      exact ih
theorem RKs.any {K : PySem.W.Frag} {H : Hp} {φ : List Addr} {kvs : List (Key × D)} {vs : List (Key × V)} (r : RKs K G H φ id kvs vs) (k : Key) : (kvs.any fun kv => decide (kv.1 = k)) = (vs.any fun kv => decide (kv.1 = k)) := by
  induction r with
  | nil => rfl
  | @cons k' d' v' ds vs a b ih =>
    rw [List.any_cons, List.any_cons, ih]
    rfl
theorem RKs.mapPut {K : PySem.W.Frag} {H : Hp} {φ : List Addr} (k : Key) {d : D} {v : V} (q : RV K G H φ d v) : ∀ {kvs : List (Key × D)} {vs : List (Key × V)}, RKs K G H φ id kvs vs →
    RKs K G H φ id (kvs.map fun kv => if kv.1 = k then (kv.1, d) else kv) (vs.map fun kv => if kv.1 = k then (kv.1, v) else kv)
  | _, _, .nil => .nil
  | _, _, .cons (k := k2) a b => by
    have ih := RKs.mapPut k q b
    rw [List.map_cons, List.map_cons]
    by_cases hk : k2 = k
    · simp only [hk, id, if_true]
      exact .cons (f := id) q ih
    · simp only [hk, id, if_false]
      exact .cons (f := id) a ih
theorem RKs.snoc {K : PySem.W.Frag} {H : Hp} {φ : List Addr} (k : Key) {d : D} {v : V} (q : RV K G H φ d v) : ∀ {kvs : List (Key × D)} {vs : List (Key × V)}, RKs K G H φ id kvs vs → RKs K G H φ id (kvs ++ [(k, d)]) (vs ++ [(k, v)])
  | _, _, .nil => .cons (f := id) q .nil
  | _, _, .cons a b => .cons a (RKs.snoc k q b)
theorem RKs.putK {K : PySem.W.Frag} {H : Hp} {φ : List Addr} {kvs : List (Key × D)} {vs : List (Key × V)} (r : RKs K G H φ id kvs vs) (k : Key) {d : D} {v : V} (q : RV K G H φ d v) : RKs K G H φ id (putD kvs k d) (L2.putK vs k v) := by
  unfold putD L2.putK
  rw [r.any k]
  split
  · exact RKs.mapPut k q r
  · exact RKs.snoc k q r
theorem RKs.drop {K : PySem.W.Frag} {H : Hp} {φ : List Addr} (k : Key) : ∀ {kvs : List (Key × D)} {vs : List (Key × V)}, RKs K G H φ id kvs vs → RKs K G H φ id (dropD kvs k) (dropK vs k)
  | _, _, .nil => .nil
  | _, _, .cons (k := k2) a b => by
    have ih := RKs.drop k b
    unfold dropD dropK at ih ⊢
    by_cases hk : k2 = k
    · rw [List.filter_cons_of_neg (by simp [hk]), List.filter_cons_of_neg (by simp [hk])]
      exact ih
    · rw [List.filter_cons_of_pos (by simp [hk]), List.filter_cons_of_pos (by simp [hk])]
      exact .cons a ih
/-- a dict as it may be read -/
def dctO (S : Sto) (d : D) : Option (List (Key × D)) := match d with
  | .vd ks xs => some (ks.zip xs)
  | .loc l => match S[l]? with
    | some (.dct _ kvs) => some kvs
    | _ => none
  | _ => none
theorem dct_ok {K : PySem.W.Frag} {φ : List Addr} {S : Sto} {H : Hp} (em : Emb K G φ S H) {d : D} {v : V} {kvs : List (Key × D)} (r : RV K G H φ d v) (h : dctO S d = some kvs) : ∃ p vs, v = .ref p ∧ Rd H p (.dK vs) ∧ RKs K G H φ id kvs vs := by
  unfold dctO at h
  split at h
  · cases h
    cases r with
    | vd n q e s p => exact ⟨_, _, rfl, .inl q, RKs.zip (by rw [e, List.map_id]) s⟩
  · split at h
    · rename_i fz ys e
      cases h
      obtain ⟨a, rfl, _, ro⟩ := em.at_loc e r
      cases ro with
      | dct e1 rk => exact ⟨_, _, rfl, .inl e1, rk⟩
      | dctF e1 rk => exact ⟨_, _, rfl, .inr ⟨_, e1⟩, rk⟩
    · cases h
  · cases h
def lkO (o : Option (List (Key × D))) (k : Option Key) (S : Sto) : Res D := match o, k with
  | some kvs, some k => match valD kvs k with
    | some x => .ok x S
    | none => .stuck
  | _, _ => .stuck
def dGet (o i : D) (S : Sto) : Res D := lkO (dctO S o) (keyD i) S
theorem d_dget {a b : Expr} {ma mb : MEx} {pos : Pos} (d : DX X G W k) (ha : PE X a (wpE X.K G W ma)) (hb : PE X b (wpE X.K G W mb)) (hs : NoSl b := by exact fun _ _ => rfl) : PE X (.Subscript a b pos) (wpE X.K G W (mOp2 dGet ma mb)) := by
  refine pe_conv (pe_dget (by have := d.hr.units; omega) ha hb hs) ?_
  rintro σ H Q ⟨φ, ρ, S, em, rs, h⟩
  refine ⟨φ, ρ, S, em, rs, h.bind fun x S1 φ1 v1 H1 x1 em1 r1 h1 => ?_⟩
  refine ⟨φ1, ρ, S1, em1, rs.ext x1, h1.bind fun y S2 φ2 v2 H2 x2 em2 r2 h2 => ?_⟩
  have r1' := RV.ext x2 r1
  unfold dGet lkO at h2
  split at h2
  · rename_i kvs k es hk
    split at h2
    · rename_i z ez
      obtain ⟨a', vs, rfl, rd, rk⟩ := dct_ok em2 r1' es
      obtain ⟨w, ew, rw'⟩ := (rk.val k).1 z ez
      exact ⟨a', w, rfl, .inl ⟨_, k, rd, keyD_ok r2 hk, ew.symm⟩, outR.ok (R := rE X.K G) h2 em2 rw'⟩
    · exact h2.elim
  · exact h2.elim
/-- {} -/
def mDct : MEx := fun _ S => .ok (.loc S.length) (S ++ [.dct false []])
theorem d_dct {pos : Pos} : PE X (.Dict [] [] pos) (wpE X.K G W mDct) := by
  refine pe_conv pe_dnewK ?_
  rintro σ H Q ⟨φ, ρ, S, em, rs, h⟩ p hp
  refine h (φ ++ [p]) (.ref p) _ (.new hp) (em.new hp (.dct upd_same .nil)) (.loc ?_)
  rw [← em.len]
  simp
/-- d[k] = v -/
def dPut (o i v : D) (S : Sto) : Option Sto := match o, keyD i with
  | .loc l, some k => match S[l]? with
    | some (.dct false kvs) => if kvs.length < sizeLine then some (S.set l (.dct false (putD kvs k v))) else none
    | _ => none
  | _, _ => none
def sDPutM (mo mi mv : MEx) : MSt := fun ρ S => (mv ρ S).st ρ fun v S1 => (mo ρ S1).st ρ fun o S2 => (mi ρ S2).st ρ fun i S3 => nxO ρ (dPut o i v S3)
theorem s_dput {o i value : Expr} {mo mi mv : MEx} {pos pos' : Pos} (d : DX X G W k) (ho : PE X o (wpE X.K G W mo)) (hi : PE X i (wpE X.K G W mi)) (hv : PE X value (wpE X.K G W mv))
    (hs : swapsWith value (some (.Subscript o i pos')) pos.line X.env = pure false := by rfl) : PS X (.Assign [.Subscript o i pos'] value pos) (wpS X.K G W (sDPutM mo mi mv)) := by
  refine ps_conv (ps_dput (by have := d.hr.units; omega) ho hi hv hs) ?_
  rintro D σ H ⟨φ, ρ, S, em, rs, h⟩
  refine ⟨φ, ρ, S, em, rs, outR.st rs h fun v S1 φ1 y H1 x em1 rv h1 => ?_⟩
  refine ⟨φ1, ρ, S1, em1, rs.ext x, outR.st (rs.ext x) h1 fun o' S2 φ2 y2 H2 x2 em2 rv2 h2 => ?_⟩
  refine ⟨φ2, ρ, S2, em2, (rs.ext x).ext x2, outR.st ((rs.ext x).ext x2) h2 fun i' S3 φ3 y3 H3 x3 em3 rv3 h3 => ?_⟩
  have rv2' := RV.ext x3 rv2
  have rv' := RV.ext x3 (RV.ext x2 rv)
  unfold dPut at h3
  split at h3
  · rename_i l k hk
    split at h3
    · rename_i kvs es
      split at h3
      · rename_i hl
        obtain ⟨a, rfl, ha, ro⟩ := em3.at_loc es rv2'
        cases ro with
        | dct e1 rk =>
          rename_i vs
          have n1 : ∀ xs, HO.dK vs ≠ .tup xs := fun _ z => nomatch z
          have n2 : ∀ ob w, HO.dK vs ≠ .frz ob w := fun _ _ z => nomatch z
          have xa : Ext φ3 H3 φ3 (upd H3 a (.dK (L2.putK vs k y))) := .at ha e1 n1 n2
          have em4 := em3.set (o := .dct false (putD kvs k v)) (ho := .dK (L2.putK vs k y)) es ha e1 n1 n2 (.dct upd_same (((rk.putK k rv')).ext xa))
          exact ⟨a, _, rfl, .inl ⟨vs, k, e1, keyD_ok rv3 hk, by rw [← rk.length]; exact hl, rfl⟩, h3 φ3 _ _ xa em4 ((((rs.ext x).ext x2).ext x3).ext xa)⟩
      · exact h3.elim
    · exact h3.elim
  · exact h3.elim
/-! ### two readings of a test -/
theorem pt_or2 {e : Expr} {t t' : TT} (h : PT X e t) (h' : PT X e t') : PT X e (fun σ H Q => t σ H Q ∨ t' σ H Q) := ⟨fun pins s σ H Q I ht => ht.elim (h.run pins s σ H Q I) (h'.run pins s σ H Q I)⟩
def tAltM (a b : MTs) : MTs := fun ρ S => match a ρ S with
  | .stuck => b ρ S
  | r => r
theorem t_alt {e : Expr} {a b : MTs} (ha : PT X e (wpT X.K G W a)) (hb : PT X e (wpT X.K G W b)) : PT X e (wpT X.K G W (tAltM a b)) := by
  refine pt_conv (pt_or2 ha hb) ?_
  rintro σ H Q ⟨φ, ρ, S, em, rs, h⟩
  unfold tAltM at h
  cases q : a ρ S with
  | ok d S' => rw [q] at h; exact .inl ⟨φ, ρ, S, em, rs, by rw [q]; exact h⟩
  | exc d S' => rw [q] at h; exact .inl ⟨φ, ρ, S, em, rs, by rw [q]; exact h⟩
  | stuck => rw [q] at h; exact .inr ⟨φ, ρ, S, em, rs, h⟩
/-! ### is the key in -/
def inO (neg : Bool) (o : Option (List (Key × D))) (k : Option Key) (S : Sto) : Res D := match o, k with
  | some kvs, some k => .ok (.bl (if neg then !(valD kvs k).isSome else (valD kvs k).isSome)) S
  | _, _ => .stuck
def dIn (neg : Bool) (x y : D) (S : Sto) : Res D := inO neg (dctO S y) (keyD x) S
theorem din_core {K : PySem.W.Frag} {neg : Bool} {φ : List Addr} {S : Sto} {σ : St} {H : Hp} {d1 d2 : D} {v1 v2 : V} {Q : VK} (em : Emb K G φ S H) (r1 : RV K G H φ d1 v1) (r2 : RV K G H φ d2 v2) (h : outR K G W (rE K G) (dIn neg d1 d2 S) φ σ H Q) :
    ∃ a o, v2 = .ref a ∧ DGet H a v1 o ∧ Q (.bl (if neg then !o.isSome else o.isSome)) H := by
  unfold dIn inO at h
  split at h
  · rename_i kvs k es hk
    obtain ⟨a, vs, rfl, rd, rk⟩ := dct_ok em r2 es
    have key : (valD kvs k).isSome = (valV vs k).isSome := by
      cases e : valD kvs k with
      | none => rw [(rk.val k).2 e]; rfl
      | some z => obtain ⟨w, ew, _⟩ := (rk.val k).1 z e; rw [ew]; rfl
    rw [key] at h
    exact ⟨a, _, rfl, .inl ⟨_, k, rd, keyD_ok r1 hk, rfl⟩, outR.ok (R := rE K G) h em .bl⟩
  · exact h.elim
theorem din_conv {K : PySem.W.Frag} {ma mb : MEx} (σ : St) (H : Hp) (Q : VK) (h : wpE K G W (mOp2 (dIn false) ma mb) σ H Q) : tDIn (wpE K G W ma) (wpE K G W mb) σ H Q := by
  obtain ⟨φ, ρ, S, em, rs, h⟩ := h
  refine ⟨φ, ρ, S, em, rs, h.bind fun x S1 φ1 v1 H1 x1 em1 r1 h1 => ?_⟩
  refine ⟨φ1, ρ, S1, em1, rs.ext x1, h1.bind fun y S2 φ2 v2 H2 x2 em2 r2 h2 => ?_⟩
  exact din_core em2 (RV.ext x2 r1) r2 h2
theorem dnin_conv {K : PySem.W.Frag} {ma mb : MEx} (σ : St) (H : Hp) (Q : VK) (h : wpE K G W (mOp2 (dIn true) ma mb) σ H Q) : tDNotIn (wpE K G W ma) (wpE K G W mb) σ H Q := by
  obtain ⟨φ, ρ, S, em, rs, h⟩ := h
  refine ⟨φ, ρ, S, em, rs, h.bind fun x S1 φ1 v1 H1 x1 em1 r1 h1 => ?_⟩
  refine ⟨φ1, ρ, S1, em1, rs.ext x1, h1.bind fun y S2 φ2 v2 H2 x2 em2 r2 h2 => ?_⟩
  exact din_core em2 (RV.ext x2 r1) r2 h2
theorem d_din {a b : Expr} {ma mb : MEx} {pos : Pos} (d : DX X G W k) (ha : PE X a (wpE X.K G W ma)) (hb : PE X b (wpE X.K G W mb)) (hm : behindInMarks .In b = false := by rfl) : PE X (.Compare a [.In] [b] pos) (wpE X.K G W (mOp2 (dIn false) ma mb)) :=
  pe_conv (pe_cmp (pc_din (by have := d.hr.units; omega) ha hb) hm) din_conv
theorem d_dnin {a b : Expr} {ma mb : MEx} {pos : Pos} (d : DX X G W k) (ha : PE X a (wpE X.K G W ma)) (hb : PE X b (wpE X.K G W mb)) (hm : behindInMarks .NotIn b = false := by rfl) : PE X (.Compare a [.NotIn] [b] pos) (wpE X.K G W (mOp2 (dIn true) ma mb)) :=
  pe_conv (pe_cmp (pc_dnotin (by have := d.hr.units; omega) ha hb) hm) dnin_conv
theorem t_din {a b : Expr} {ma mb : MEx} {pos : Pos} (d : DX X G W k) (ha : PE X a (wpE X.K G W ma)) (hb : PE X b (wpE X.K G W mb)) (hm : behindInMarks .In b = false := by rfl) : PT X (.Compare a [.In] [b] pos) (wpT X.K G W (mTest (mOp2 (dIn false) ma mb))) :=
  pt_conv (pt_cmp (pc_din (by have := d.hr.units; omega) ha hb) hm) (test din_conv)
theorem t_dnin {a b : Expr} {ma mb : MEx} {pos : Pos} (d : DX X G W k) (ha : PE X a (wpE X.K G W ma)) (hb : PE X b (wpE X.K G W mb)) (hm : behindInMarks .NotIn b = false := by rfl) : PT X (.Compare a [.NotIn] [b] pos) (wpT X.K G W (mTest (mOp2 (dIn true) ma mb))) :=
  pt_conv (pt_cmp (pc_dnotin (by have := d.hr.units; omega) ha hb) hm) (test dnin_conv)
/-! ### sorted, of ints -/
def insI (a : Int) : List Int → List Int
  | [] => [a]
  | b :: l => if a ≤ b then a :: b :: l else b :: insI a l
def sortI : List Int → List Int
  | [] => []
  | a :: l => insI a (sortI l)
theorem insI_perm (a : Int) : ∀ l : List Int, (insI a l).Perm (a :: l)
  | [] => .refl _
  | b :: l => by
    unfold insI
    split
    · exact .refl _
    · exact (List.Perm.cons b (insI_perm a l)).trans (List.Perm.swap a b l)
theorem sortI_perm : ∀ l : List Int, (sortI l).Perm l
  | [] => .refl _
  | a :: l => (insI_perm a (sortI l)).trans (List.Perm.cons a (sortI_perm l))
theorem insI_sorted (a : Int) : ∀ l : List Int, l.Pairwise (· ≤ ·) → (insI a l).Pairwise (· ≤ ·)
  | [], _ => List.pairwise_singleton _ _
  | b :: l, h => by
    unfold insI
    have h2 := List.pairwise_cons.mp h
    split
    · rename_i hab
      refine List.pairwise_cons.mpr ⟨fun c hc => ?_, h⟩
      rcases List.mem_cons.mp hc with rfl | hc
      · exact hab
      · exact Int.le_trans hab (h2.1 c hc)
    · rename_i hab
      refine List.pairwise_cons.mpr ⟨fun c hc => ?_, insI_sorted a l h2.2⟩
      rcases List.mem_cons.mp ((insI_perm a l).mem_iff.mp hc) with rfl | hc
      · omega
      · exact h2.1 c hc
theorem sortI_sorted : ∀ l : List Int, (sortI l).Pairwise (· ≤ ·)
  | [] => List.Pairwise.nil
  | a :: l => insI_sorted a _ (sortI_sorted l)
theorem sorted_uniq : ∀ (xs ys : List Int), xs.Perm ys → xs.Pairwise (· ≤ ·) → ys.Pairwise (· ≤ ·) → xs = ys
  | [], ys, p, _, _ => (List.Perm.nil_eq p)
  | x :: xs, [], p, _, _ => absurd p.length_eq (by simp)
  | x :: xs, y :: ys, p, h1, h2 => by
    have a1 := List.pairwise_cons.mp h1
    have a2 := List.pairwise_cons.mp h2
    have hx : x ∈ y :: ys := p.mem_iff.mp List.mem_cons_self
    have hy : y ∈ x :: xs := p.mem_iff.mpr List.mem_cons_self
    have e : x = y := by
      rcases List.mem_cons.mp hx with z | z
      · exact z
      · rcases List.mem_cons.mp hy with w | w
        · exact w.symm
        · exact Int.le_antisymm (a1.1 y w) (a2.1 x z)
    subst e
    rw [sorted_uniq xs ys (List.Perm.cons_inv p) a1.2 a2.2]
def intsOf : List D → Option (List Int) := optAll fun d => match d with
  | .int i => some i
  | _ => none
theorem intsOf_ok : ∀ {xs : List D} {ns : List Int}, intsOf xs = some ns → xs = ns.map .int
  | [], _, h => by cases h; rfl
  | x :: xs, ns, h => by
    unfold intsOf optAll at h
    split at h
    · rename_i y ys e1 e2
      cases h
      have ih := intsOf_ok (xs := xs) (ns := ys) e2
      rw [List.map_cons, ← ih]
      cases x <;> first | (cases e1; rfl) | cases e1
    · cases h
theorem rvs_ints {K : PySem.W.Frag} {H : Hp} {φ : List Addr} : ∀ {ns : List Int} {vs : List V}, RVs K G H φ (ns.map D.int) vs → vs = ns.map V.int
  | [], _, r => by cases r; rfl
  | n :: ns, _, r => by
    cases (show RVs K G H φ (D.int n :: ns.map D.int) _ from r) with
    | cons a b => cases a; rw [rvs_ints b]; rfl
theorem ints_rvs {K : PySem.W.Frag} {H : Hp} {φ : List Addr} : ∀ {ns : List Int}, RVs K G H φ (ns.map D.int) (ns.map V.int)
  | [] => .nil
  | _ :: _ => .cons .int ints_rvs
/-! ### sorted, of a list of ints or of a dict with int keys -/
def intKeys : List (Key × D) → Option (List Int)
  | [] => some []
  | (.inl i, _) :: r => (intKeys r).map (i :: ·)
  | (.inr _, _) :: _ => none
theorem intKeys_ok {K : PySem.W.Frag} {H : Hp} {φ : List Addr} : ∀ {kvs : List (Key × D)} {vs : List (Key × V)} {ks : List Int}, RKs K G H φ id kvs vs → intKeys kvs = some ks → vs.map (·.1) = ks.map Sum.inl
  | _, _, _, .nil, h => by cases h; rfl
  | _, _, _, .cons (k := k2) a b, h => by
    cases k2 with
    | inl i =>
      unfold intKeys at h
      obtain ⟨ks, e, rfl⟩ := Option.map_eq_some_iff.mp h
      rw [List.map_cons, List.map_cons, intKeys_ok b e]
      rfl
    | inr z => cases h
def rSortedDI : List V → Hp → VK → Prop := fun xs H Q => ∃ (a : Addr) (kvs : List (Key × V)) (ks : List Int), xs = [.ref a] ∧ Rd H a (.dK kvs) ∧ kvs.map (·.1) = ks.map Sum.inl ∧
    ∀ (ys : List Int) (p : Addr), ys.Perm ks → ys.Pairwise (· ≤ ·) → H p = none → Q (.ref p) (upd H p (.lst (ys.map V.int)))
open PySem.Spec PyProof.Rows in
/-- sorted(d) of a dict whose keys are all ints, any number of them -/
theorem call_sortedDIU {X : Cx} (hcalm : X.calm = true) : CallR X (.builtin "sorted") rSortedDI := by
  intro pins s σ H xs us Q I r q
  obtain ⟨a, kvs, ks, ex, hd, hks, q⟩ := q
  subst ex
  obtain ⟨u, eu, rx⟩ := vals1 r
  subst eu
  cases rx
  obtain ⟨z, lo, vs, rel, dd⟩ := dk_rd I.hok hd
  obtain ⟨ep, hat⟩ := dd.dictAt
  have hkeys : vs.map (·.1) = ks.map Sum.inl := rel.keys.symm.trans hks
  have hl : vs.length = ks.length := by
    have e := congrArg List.length hkeys
    rw [List.length_map, List.length_map] at e
    exact e
  have h16 : vs.length ≤ sizeLine := by rw [← rel.length]; exact z
  refine Calls.call_function_entry PyProof.Rows.kind_sorted PyProof.Rows.plain_sorted PyProof.Rows.entry_sorted (PyProof.Rows.args_sorted1 _) ?_
  unfold Builtin.«sorted»
  refine wpAny_bind (m := checkCount "sorted" 1 1 _) (wpAny_pure ?_)
  refine wpAny_bind (PySem.W.kdu_collect (A := X.A.in1) (PySem.W.kdl_dict (knd := mixKind X.prog X.w) (kvs := vs) (ep := ep) lo) (I.ok.hd hcalm) hat h16 fun h' tk acc hk hacc => ?_)
  have hal : acc.toList.length = ks.length := by rw [Array.length_toList, hacc.1, hl]
  have hz : acc.toList.length ≤ sizeLine := by rw [hal, ← hl]; exact h16
  have hS : IntsAre acc.toList ks := ints_each hal fun j v e => by
    obtain ⟨k, x, e1, e2⟩ := hacc.2 j v (by rw [← Array.getElem?_toList]; exact e)
    have e3 : (vs.map (·.1))[j]? = some k := by rw [List.getElem?_map, e1]; rfl
    rw [hkeys, List.getElem?_map] at e3
    cases e4 : ks[j]? with
    | none => rw [e4] at e3; cases e3
    | some y =>
      rw [e4] at e3
      have e5 : Sum.inl y = k := Option.some.inj e3
      subst e5
      rcases keyIs_shape (show keyIs (Sum.inl y) v = true from e2) with ⟨i, t, ek, ev⟩ | ⟨z, t, ek, ev⟩
      · cases ek
        exact ⟨y, t, rfl, ev⟩
      · cases ek
  have I1 : Inv X pins σ H { s with heap := h', toks := tk } := I.kept hk
  refine wpAny_bind (wpAny_newList ?_ hz)
  have hoL : (h'.push (seqObj "list" acc.toList.toArray 0)).get? h'.objs.size = some (seqObj "list" acc.toList.toArray 0) := Heap.get?_push_size _ rfl
  show wpAny _ _ _ _ _ { s with heap := h'.push (seqObj "list" acc.toList.toArray 0), toks := tk }
  refine wpAny_bind (wpAny_holding (wpAny_call_entry PyProof.Rows.slot_list_sort ⟨_, hoL, rfl⟩ PyProof.Rows.entry_list_sort
    (SrtO.list_sort_ord SrtO.swo_int (s := { s with heap := h'.push (seqObj "list" acc.toList.toArray 0), toks := tk }) hoL hz (fun h2 => SrtO.ints_sortable hS h2) fun out h1 h2 => ⟨_, rfl, ?_⟩) (PyProof.Rows.args_list_sort _)))
  obtain ⟨k1, k2, k3⟩ := SrtO.ints_out hS h1 h2
  obtain ⟨e', he'⟩ := PyProof.Rows.sortedHeap_at (vs := acc.toList) (out := out.toArray) hoL
  have hlen : ((out.map SrtO.iv).map V.int).length ≤ sizeLine := by
    rw [List.length_map, k2.length_eq, ← hal]
    exact hz
  refine wpAny_pure ⟨_, rfl, .ref h'.objs.size, upd H h'.objs.size (.lst ((out.map SrtO.iv).map V.int)), I1.laid (t' := tk) (fun b u e => ?_) (Nat.le_refl _)
    (show ObjOk X.prog X.w _ _ _ (.lst ((out.map SrtO.iv).map V.int)) from ⟨hlen, out, e', vals_of_ints k1, he'⟩), rfl, q _ _ k2 k3 (I1.hok.fresh (Nat.le_refl _))⟩
  have hb : b < h'.objs.size := Heap.lt_size e
  rw [PyProof.Rows.sortedHeap_old (Nat.ne_of_lt hb) (by rw [size_push']; exact Nat.lt_succ_of_lt hb)]
  exact Heap.get?_push_of_some _ e
def rSortU (K : PySem.W.Frag) : List V → Hp → VK → Prop := fun xs H Q => rSortedI K xs H Q ∨ rSortedDI xs H Q
theorem cr_sortU (d : DX X G W k) : CallR X (.builtin "sorted") (rSortU X.K) := cr_sortedI.or (call_sortedDIU d.calm)
def sortO (tr : Bool) (xs : Option (List D)) (kvs : Option (List (Key × D))) (S : Sto) : Res D := match xs, kvs with
  | some xs, _ => match intsOf xs with
    | some ns => newL tr ((sortI ns).map .int) S
    | none => .stuck
  | none, some kvs => match intKeys kvs with
    | some ks => newL tr ((sortI ks).map .int) S
    | none => .stuck
  | _, _ => .stuck
def cSort (tr : Bool) (ds : List D) (S : Sto) : Res D := match ds with
  | [d] => sortO tr (lstO S d) (dctO S d) S
  | _ => .stuck
theorem s_sortU {K : PySem.W.Frag} {tr : Bool} : CallS K G W (cSort tr) (rSortU K) := by
  intro φ S σ H ds vs Q em r h
  unfold cSort at h
  split at h
  · rename_i d
    cases r with
    | @cons _ v _ _ a b =>
      cases b
      unfold sortO at h
      split at h
      · rename_i xs es
        split at h
        · rename_i ns e
          obtain ⟨p, ws, rfl, sq, rv⟩ := lst_ok em a es
          rw [intsOf_ok e] at rv
          rw [rvs_ints rv] at sq
          refine .inl ⟨p, ns, rfl, sq, fun ns' q pm so hq => ?_⟩
          rw [sorted_uniq ns' (sortI ns) (pm.trans (sortI_perm ns).symm) so (sortI_sorted ns)]
          exact h.newL em ints_rvs hq
        · exact h.elim
      · rename_i kvs _ es
        split at h
        · rename_i ks e
          obtain ⟨p, ws, rfl, rd, rk⟩ := dct_ok em a es
          have fin : ∀ (ns' : List Int) (q : Addr), ns'.Perm ks → ns'.Pairwise (· ≤ ·) → H q = none → Q (.ref q) (upd H q (.lst (ns'.map V.int))) := fun ns' q pm so hq => by
            rw [sorted_uniq ns' (sortI ks) (pm.trans (sortI_perm ks).symm) so (sortI_sorted ks)]
            exact h.newL em ints_rvs hq
          exact .inr ⟨p, _, ks, rfl, rd, intKeys_ok rk e, fin⟩
        · exact h.elim
      · exact h.elim
  · exact h.elim
/-! ### list(x), of a list, a tuple, or a dict's keys -/
def keyOf : Key → D
  | .inl i => .int i
  | .inr z => .str z
theorem keys_rvs {K : PySem.W.Frag} {H : Hp} {φ : List Addr} : ∀ {kvs : List (Key × D)} {vs : List (Key × V)}, RKs K G H φ id kvs vs → RVs K G H φ (kvs.map fun kv => keyOf kv.1) (vs.map fun kv => kV kv.1)
  | _, _, .nil => .nil
  | _, _, .cons (k := k2) a b => by
    refine .cons ?_ (keys_rvs b)
    cases k2 <;> constructor
def rListU (K : PySem.W.Frag) : List V → Hp → VK → Prop := fun xs H Q => (∃ p ys, xs = [.ref p] ∧ (SqL K H p ys ∨ SqT K H p ys) ∧ ∀ l, H l = none → Q (.ref l) (upd H l (.lst ys))) ∨
  (∃ (a : Addr) (kvs : List (Key × V)), xs = [.ref a] ∧ Rd H a (.dK kvs) ∧ ∀ p, H p = none → Q (.ref p) (upd H p (.lst (kvs.map fun kv => kV kv.1))))
theorem cr_listU (d : DX X G W k) : CallR X (.type "list") (rListU X.K) := call_list_of.or (call_listD d.calm)
def listO (tr : Bool) (xs : Option (List D)) (kvs : Option (List (Key × D))) (S : Sto) : Res D := match xs, kvs with
  | some xs, _ => newL tr xs S
  | none, some kvs => newL tr (kvs.map fun kv => keyOf kv.1) S
  | _, _ => .stuck
def cListU (tr : Bool) (ds : List D) (S : Sto) : Res D := match ds with
  | [d] => listO tr (items S d) (dctO S d) S
  | _ => .stuck
theorem s_listU {K : PySem.W.Frag} {tr : Bool} : CallS K G W (cListU tr) (rListU K) := by
  intro φ S σ H ds vs Q em r h
  unfold cListU at h
  split at h
  · rename_i d
    cases r with
    | @cons _ v _ _ a b =>
      cases b
      unfold listO at h
      split at h
      · rename_i xs es
        obtain ⟨p, ws, rfl, hs, rv⟩ := items_ok em a es
        exact .inl ⟨p, ws, rfl, hs, fun l hl => h.newL em rv hl⟩
      · rename_i kvs _ es
        obtain ⟨p, ws, rfl, rd, rk⟩ := dct_ok em a es
        exact .inr ⟨p, _, rfl, rd, fun q hq => h.newL em (keys_rvs rk) hq⟩
      · exact h.elim
  · exact h.elim
end
end MP

set_option Elab.async false
set_option linter.all false
set_option maxRecDepth 100000
set_option maxHeartbeats 4000000
namespace MP
open PySem L2
section
variable {X : Cx} {G : Ga} {W : WX} {k : Nat}
/-! ### out of a lock -/
structure WK (K : PySem.W.Frag) (φ : List Addr) (H H' : Hp) : Prop where
  tup : ∀ b xs, SqT K H b xs → SqT K H' b xs
  out : ∀ b u, b ∉ φ → H b = some u → H' b = some u
section
variable {K : PySem.W.Frag} {H H' : Hp} {φ : List Addr}
mutual
theorem RV.wk {d : D} {v : V} (t : WK K φ H H') (h : RV K G H φ d v) : RV K G H' φ d v := by
  cases h with
  | non => exact .non
  | bl => exact .bl
  | int => exact .int
  | str => exact .str
  | tup q r => exact .tup (t.tup _ _ q) (RVs.wk t r)
  | vl n q r p => exact .vl n (t.out _ _ n q) (RVs.wk t r) p
  | cl q r p => exact .cl (q.imp (fun z => ⟨z.1, let ⟨o, w⟩ := z.2; ⟨o, t.out _ _ z.1 w⟩⟩) id) (RVs.wk t r) p
  | vd n q e r p => exact .vd n (t.out _ _ n q) e (RVs.wk t r) p
  | vo n q hh e r o p => exact .vo n (t.out _ _ n q) hh e (RVs.wk t r) o p
  | loc e => exact .loc e
theorem RVs.wk {ds : List D} {vs : List V} (t : WK K φ H H') (h : RVs K G H φ ds vs) : RVs K G H' φ ds vs := by
  cases h with
  | nil => exact .nil
  | cons a b => exact .cons (RV.wk t a) (RVs.wk t b)
end
theorem RKs.wk {κ κ' : Type} {f : κ → κ'} {ds : List (κ × D)} {vs : List (κ' × V)} (t : WK K φ H H') (h : RKs K G H φ f ds vs) : RKs K G H' φ f ds vs := by
  induction h with
  | nil => exact .nil
  | cons a b ih => exact .cons (a.wk t) ih
end
theorem wk_unlock {K : PySem.W.Frag} {φ : List Addr} {H : Hp} {l : Nat} {a : Addr} {od : Obj} {vs : List (Key × V)} (ha : φ[l]? = some a) (h : H a = some (.frz od (.dK vs))) : WK K φ H (upd H a (.dK vs)) := by
  refine ⟨fun b xs q => ?_, fun b u n e => by rw [upd_ne (fun z => n (by rw [z]; exact List.mem_of_getElem? ha))]; exact e⟩
  by_cases hb : b = a
  · subst hb
    rcases q with (q | ⟨o, q⟩) | q
    · rw [h] at q; cases q
    · rw [h] at q; cases q
    · exact .inr q
  · rcases q with (q | ⟨o, q⟩) | q
    · exact .inl (.inl (by rw [upd_ne hb]; exact q))
    · exact .inl (.inr ⟨o, by rw [upd_ne hb]; exact q⟩)
    · exact .inr q
theorem Emb.unlock {K : PySem.W.Frag} {φ : List Addr} {S : Sto} {H : Hp} {l : Nat} {a : Addr} {od : Obj} {kvs : List (Key × D)} {vs : List (Key × V)} (em : Emb K G φ S H) (es : S[l]? = some (.dct true kvs)) (ha : φ[l]? = some a) (h : H a = some (.frz od (.dK vs))) :
    Emb K G φ (S.set l (.dct false kvs)) (upd H a (.dK vs)) := by
  have hl : l < S.length := (List.getElem?_eq_some_iff.mp es).1
  have wk : WK K φ H (upd H a (.dK vs)) := wk_unlock ha h
  refine ⟨by simp [em.len], em.nd, fun i o' b hS e => ?_⟩
  by_cases hi : l = i
  · subst hi
    rw [List.getElem?_set_self hl] at hS
    cases hS
    rw [ha] at e
    cases e
    have q := em.ob l _ a es ha
    cases q with
    | dctF e1 rk =>
      rw [h] at e1
      cases e1
      exact .dct upd_same (rk.wk wk)
  · rw [List.getElem?_set_ne hi] at hS
    have q := em.ob i o' b hS e
    have hb : b ≠ a := fun z => hi (em.nd l i a ha (by rw [← z]; exact e))
    cases q with
    | lst e1 r1 => exact .lst (by rw [upd_ne hb]; exact e1) (r1.wk wk)
    | dct e1 r1 => exact .dct (by rw [upd_ne hb]; exact e1) (r1.wk wk)
    | dctF e1 r1 => exact .dctF (by rw [upd_ne hb]; exact e1) (r1.wk wk)
    | ins e1 r1 h1 h2 => exact .ins (by rw [upd_ne hb]; exact e1) (r1.wk wk) h1 h2
/-- from ahead of the lock to behind it -/
theorem Ext.around {φ φ' : List Addr} {H H' : Hp} {l : Nat} {a : Addr} {od : Obj} {vs : List (Key × V)} (ha : φ[l]? = some a) (h : H a = some (.dK vs)) (x : Ext φ (upd H a (.frz od (.dK vs))) φ' H') : Ext φ H φ' (upd H' a (.dK vs)) := by
  have ina : a ∈ φ := List.mem_of_getElem? ha
  refine ⟨x.1, ⟨fun b xs e => ?_, fun b o u e => ?_⟩, fun b u n e => ?_, fun b z n => ?_⟩
  · have hb : b ≠ a := by rintro rfl; rw [h] at e; cases e
    rw [upd_ne hb]
    exact x.2.tup b xs (by rw [upd_ne hb]; exact e)
  · have hb : b ≠ a := by rintro rfl; rw [h] at e; cases e
    rw [upd_ne hb]
    exact x.2.frz b o u (by rw [upd_ne hb]; exact e)
  · have hb : b ≠ a := by rintro rfl; exact n ina
    rw [upd_ne hb]
    exact x.out b u n (by rw [upd_ne hb]; exact e)
  · have hb : b ≠ a := by rintro rfl; exact n ina
    have := x.frs b z n
    rw [upd_ne hb] at this
    exact this
/-! ### for k in d, d a name -/
theorem RS.wk {K : PySem.W.Frag} {φ : List Addr} {ρ : Rho} {σ : St} {H H' : Hp} (t : WK K φ H H') (r : RS K G φ ρ σ H) : RS K G φ ρ σ H' :=
  ⟨r.len, fun i d e => by obtain ⟨v, h1, h2⟩ := r.at_ i d e; exact ⟨v, h1, h2.wk t⟩⟩
def kyGet (l : Nat) : Nat → Sto → Option (Option D) := fun i S => match S[l]? with
  | some (.dct true kvs) => some (kvs[i]?.map fun kv => keyOf kv.1)
  | _ => none
def itK (d : D) (S : Sto) : Option MIt := match d with
  | .loc l => match S[l]? with
    | some (.dct true kvs) => some ⟨kyGet l, kvs.length + 1⟩
    | _ => none
  | _ => none
def miK (m : MEx) : MIx := fun ρ S => (m ρ S).it itK
theorem RKs.get {K : PySem.W.Frag} {H : Hp} {φ : List Addr} : ∀ {kvs : List (Key × D)} {vs : List (Key × V)} {i : Nat} {k : Key} {d : D}, RKs K G H φ id kvs vs → kvs[i]? = some (k, d) → ∃ v, vs[i]? = some (k, v) ∧ RV K G H φ d v
  | _, _, _, _, _, .nil, e => by simp at e
  | _, _, 0, _, _, .cons (v := v) a _, e => by simp at e; obtain ⟨rfl, rfl⟩ := e; exact ⟨v, rfl, a⟩
  | _, _, i + 1, _, _, .cons _ b, e => by
    rw [List.getElem?_cons_succ] at e
    obtain ⟨v, h1, h2⟩ := RKs.get b e
    exact ⟨v, by rw [List.getElem?_cons_succ]; exact h1, h2⟩
theorem it_keys {K : PySem.W.Frag} {l m : Nat} {φ0 : List Addr} {H0 : Hp} {a : Addr} {o : Obj} {vs : List (Key × V)} (ha : φ0[l]? = some a) (h0 : H0 a = some (.frz o (.dK vs))) : ItOk K G ⟨kyGet l, m⟩ (Itk a o vs) φ0 H0 := by
  intro i φ S H x em
  show match kyGet l i S with | none => True | some none => _ | some (some d) => _
  have ha' := pre_get x.1 ha
  have h' := x.2.frz a o _ h0
  unfold kyGet
  cases es : S[l]? with
  | none => trivial
  | some ob =>
    cases ob with
    | lst _ => trivial
    | ins _ _ => trivial
    | dct fz kvs =>
      cases fz with
      | false => trivial
      | true =>
        have ro := em.ob l _ a es ha'
        cases ro with
        | dctF e1 rk =>
          rw [h'] at e1
          cases e1
          dsimp only
          cases ek : kvs[i]? with
          | none => exact ⟨h', by rw [← rk.length]; exact List.getElem?_eq_none_iff.mp ek⟩
          | some kv =>
            obtain ⟨k, d⟩ := kv
            obtain ⟨v, ev, rv⟩ := rk.get ek
            refine ⟨⟨h', (List.getElem?_eq_some_iff.mp ev).1⟩, ?_⟩
            rintro y H' ⟨rfl, k', v', e2, rfl⟩
            rw [ev] at e2
            cases e2
            refine ⟨.refl, em, ?_⟩
            cases k <;> constructor
theorem i_keys {tg e : Expr} {m : MEx} (he : PE X e (wpE X.K G W m)) : PI X tg e (wpI X.K G W (miK m)) := by
  refine pi_conv (pi_keys he) ?_
  rintro σ H R ⟨φ, ρ, S, em, rs, h⟩
  refine ⟨φ, ρ, S, em, rs, ?_⟩
  unfold miK Res.it at h
  cases q : m ρ S with
  | stuck => rw [q] at h; exact h
  | exc e S' => rw [q] at h; exact h
  | ok d S1 =>
    rw [q] at h
    intro φ1 v H1 x1 em1 rv
    simp only [Res.bind_ok] at h
    unfold itK at h
    split at h
    · rename_i it S2 hh
      split at hh
      · rename_i it' e1
        split at e1
        · rename_i l
          split at e1
          · rename_i kvs es
            cases e1
            cases hh
            obtain ⟨a, rfl, ha, ro⟩ := em1.at_loc es rv
            cases ro with
            | dctF e2 rk => exact ⟨a, _, rfl, .inl ⟨_, e2, h φ1 _ H1 x1 em1 (it_keys ha e2)⟩⟩
          · cases e1
        · cases e1
      · cases hh
    · rename_i hh; split at hh <;> cases hh
    · exact h.elim
def unl (l : Nat) (r : SR) : SR := match r with
  | .nx ρ S => match S[l]? with
    | some (.dct true kvs) => .nx ρ (S.set l (.dct false kvs))
    | _ => .stuck
  | .rt d S => match S[l]? with
    | some (.dct true kvs) => .rt d (S.set l (.dct false kvs))
    | _ => .stuck
  | _ => .stuck
def sForD (i : Nat) (t : Tg) (b : MSt) : MSt := fun ρ S => match ρ[i]? with
  | some (some (.loc l)) => match S[l]? with
    | some (.dct false kvs) => unl l (sFor (miK (mVar i)) t b ρ (S.set l (.dct true kvs)))
    | _ => .stuck
  | _ => .stuck
theorem s_forD {i : Nat} {tg : Expr} {y : Str} {p : Pos} {body : List Stmt} {t : Tg} {mb : MSt} {pos : Pos} (d : DX X G W k) (hv : PE X (.Name y p) (wpE X.K G W (mVar i))) (hg : PG X tg (gTg X.K t)) (hb : PSs X body (wpS X.K G W mb))
    (hs : ∀ x, foldedSetIterable (.Name y p) X.env x = pure x := by intro _; rfl) : PS X (.For tg (.Name y p) body [] pos) (wpS X.K G W (sForD i t mb)) := by
  refine ps_conv (ps_lock (s_for d (i_keys hv) hg hb hs)) ?_
  rintro D σ H ⟨φ, ρ, S, em, rs, h⟩
  unfold sForD at h
  split at h
  · rename_i l hi
    split at h
    · rename_i kvs es
      obtain ⟨v, hv1, rv⟩ := rs.at_ i _ hi
      obtain ⟨a, rfl, ha, ro⟩ := em.at_loc es rv
      cases ro with
      | dct e1 rk =>
        rename_i vs
        refine ⟨a, .dK vs, e1, ?_, fun od => ?_⟩
        · exact True.intro
        · have n1 : ∀ xs, HO.dK vs ≠ .tup xs := fun _ z => nomatch z
          have n2 : ∀ ob w, HO.dK vs ≠ .frz ob w := fun _ _ z => nomatch z
          have xa : Ext φ H φ (upd H a (.frz od (.dK vs))) := .at ha e1 n1 n2
          have em2 := em.set (o := .dct true kvs) (ho := .frz od (.dK vs)) es ha e1 n1 n2 (.dctF upd_same (rk.ext xa))
          refine ⟨φ, ρ, _, em2, rs.ext xa, ?_⟩
          cases q : sFor (miK (mVar i)) t mb ρ (S.set l (.dct true kvs)) with
          | nx ρ' S' =>
            rw [q] at h
            simp only [unl] at h
            split at h
            · rename_i kvs' es'
              intro φ' σ' H' x' em' rs'
              have hz := x'.2.frz a od _ upd_same
              exact ⟨hz, h φ' σ' _ (Ext.around ha e1 x') (em'.unlock es' (pre_get x'.1 ha) hz) (rs'.wk (wk_unlock (pre_get x'.1 ha) hz))⟩
            · exact h.elim
          | rt d' S' =>
            rw [q] at h
            simp only [unl] at h
            split at h
            · rename_i kvs' es'
              intro φ' v' H' x' em' rv'
              have hz := x'.2.frz a od _ upd_same
              exact ⟨hz, h φ' v' _ (Ext.around ha e1 x') (em'.unlock es' (pre_get x'.1 ha) hz) (rv'.wk (wk_unlock (pre_get x'.1 ha) hz))⟩
            · exact h.elim
          | bk ρ' S' => rw [q] at h; exact h.elim
          | ct ρ' S' => rw [q] at h; exact h.elim
          | xc e ρ' S' => rw [q] at h; exact h.elim
          | stuck => rw [q] at h; exact h.elim
    · exact h.elim
  · exact h.elim
end
end MP

set_option Elab.async false
set_option linter.all false
set_option maxRecDepth 100000
set_option maxHeartbeats 4000000
namespace MP
open PySem L2
section
variable {X : Cx} {G : Ga} {W : WX} {k : Nat}
/-! ### an object of a class without __init__ -/
open PySem.W in
theorem pe_make00 {C : Addr} {x : Str} {p pos : Pos} (hm : PySem.W.makesIn X.K C = true) (hi : PySem.W.findIn X.K (.ref C) "__init__" = some (some (.builtin "object.__init__"))) (kp : PySem.W.keepIn X.K (.ref C) = true) (hg : Gl X x) (hmg : X.mg x = some (.ref C))
    (hdb : (x == ("__debug__" : Str)) = false := by decide) : PE X (.Call (.Name x p) [] [] pos) (fun σ H Q => ∀ x dx, H x = none → H dx = none → dx ≠ x → Q (.ref x) (upd (upd H dx (.own x)) x (.ins C dx []))) := by
  refine ⟨fun pins s σ H Q I h => ?_⟩
  refine wpAny_Call_Name_kw (ld_glob I hg hmg ?_ hdb)
  have I2 := Inv.made (C := C) I
  have hq := h (s.heap.objs.size + 1) s.heap.objs.size (I.hok.fresh (Nat.le_succ _)) (I.hok.fresh (Nat.le_refl _)) (Nat.ne_of_lt (Nat.lt_succ_self _))
  refine PySem.W.callWith_K0 I.kIn kp (wpAny_call (make_map0 I.kIn hm hi (fun self => Looks.of_pure (PySem.W.oi_bind self)) ?_))
  obtain ⟨hh, g, d, t, os⟩ := s
  have Y := makes_of (M := model X.prog X.w) I.kIn hm
  have e2 : ((hh.push PySem.W.emptyDict).push (PySem.W.instObj C hh.objs.size)).get? (hh.objs.size + 1) = some (PySem.W.instObj C hh.objs.size) := by
    have := Heap.get?_push_size (hh.push PySem.W.emptyDict) (o := PySem.W.instObj C hh.objs.size) rfl
    rwa [Heap.size_push] at this
  have t1 : Looks (model X.prog X.w) ((hh.push emptyDict).push (instObj C hh.objs.size)) (typeOf (.ref (hh.objs.size + 1))) (.ref C) := (Looks.ld e2).andThen .now
  have t2 : Looks (model X.prog X.w) ((hh.push emptyDict).push (instObj C hh.objs.size)) (isInstance (.ref (hh.objs.size + 1)) (.type "object")) true := t1.andThen (Y.top.keeps fun b o e => Heap.get?_push_of_some _ (Heap.get?_push_of_some _ e))
  refine codeAny_call_builtin oi_plain entry_oi (@check_slot (model X.prog X.w) _ _ _ "object.__init__" "object" "__init__" (.ref (hh.objs.size + 1)) [] [] _ oi_kind oi_split t2 (oi_args (.ref (hh.objs.size + 1))) ?_)
  rw [oi_run]
  exact wpAny_pure ⟨rfl, ⟨V.ref (hh.objs.size + 1), _, I2, rfl, hq⟩⟩
/-- a class that is made so -/
structure FnN (K : PySem.W.Frag) (mg : Str → Option Value) (G : Ga) (c : Cl) : Prop where
  ex : PySem.W.makesIn K (G.cl c) = true ∧ PySem.W.findIn K (.ref (G.cl c)) "__init__" = some (some (.builtin "object.__init__")) ∧ PySem.W.keepIn K (.ref (G.cl c)) = true ∧ mg c.nm = some (.ref (G.cl c)) ∧ G.has c = true
/-- a value at once: it has no fields -/
def mMakeN (c : Cl) : MEx := fun _ S => .ok (.vo c [] []) S
theorem d_makeN {c : Cl} {x : Str} {p pos : Pos} (F : FnN X.K X.mg G c) (hx : c.nm = x := by rfl) (hg : Gl X x := by rfl) (hdb : (x == ("__debug__" : Str)) = false := by decide) : PE X (.Call (.Name x p) [] [] pos) (wpE X.K G W (mMakeN c)) := by
  subst hx
  obtain ⟨h1, h2, h3, h4, h5⟩ := F.ex
  refine pe_conv (pe_make00 h1 h2 h3 hg h4 hdb) ?_
  rintro σ H Q ⟨φ, ρ, S, em, rs, h⟩ x dx nx ndx ne
  have n2 : (upd H dx (.own x)) x = none := by rw [upd_ne ne.symm]; exact nx
  have x1 : Ext φ H φ (upd H dx (.own x)) := .other ndx
  have x2 : Ext φ (upd H dx (.own x)) φ (upd (upd H dx (.own x)) x (.ins (G.cl c) dx [])) := .other n2
  refine h φ _ _ (x1.trans x2) ((em.other ndx).other n2) (.vo (fun z => ?_) upd_same h5 rfl .nil rfl rfl)
  obtain ⟨u, e⟩ := em.there z
  rw [nx] at e; cases e
/-! ### one operand -/
def mOp1 (f : D → Sto → Res D) (a : MEx) : MEx := fun ρ S => (a ρ S).bind f
def negD (d : D) (S : Sto) : Res D := match d with
  | .int i => .ok (.int (-i)) S
  | _ => .stuck
theorem d_neg {a : Expr} {ma : MEx} {pos : Pos} (ha : PE X a (wpE X.K G W ma)) : PE X (.UnaryOp .USub a pos) (wpE X.K G W (mOp1 negD ma)) := by
  refine pe_conv (pe_un un_neg ha) ?_
  rintro σ H Q ⟨φ, ρ, S, em, rs, h⟩
  refine ⟨φ, ρ, S, em, rs, h.bind fun d S1 φ1 v H1 x em1 rv h1 => ?_⟩
  cases rv with
  | int => exact ⟨_, rfl, outR.ok (R := rE X.K G) h1 em1 .int⟩
  | _ => exact h1.elim
/-- [..] as a value -/
noncomputable def mLcV (mi : MIx) (t : Tg) (tt : MTs) (me : MEx) (own : List Nat) : MEx := mEx false (mLc mi t tt me own)
theorem d_lcv {e : Expr} {mi : MIx} {t : Tg} {tt : MTs} {me : MEx} {own : List Nat} (h : PE X e (wpE X.K G W (mLc mi t tt me own))) : PE X e (wpE X.K G W (mLcV mi t tt me own)) := d_ex false h
/-- name = [..], a value -/
theorem s_setLcX {i : Nat} {y : Str} {py : Pos} {elt tg iter : Expr} {ifs : List Expr} {scope : Scope} {own : List (Str × Nat)} {pos spos : Pos} {mi : MIx} {t : Tg} {tt : MTs} {me : MEx} (d : DX X G W k) (hi : PI X tg iter (wpI X.K G W mi)) (ok : blkC X.N X.env.scope scope own = true)
    (hsw : swapsWith (.ListComp elt [⟨tg, iter, ifs, 0⟩] scope pos) (some (.Name y py)) spos.line X.env = pure true)
    (hg : ∀ (s : Shared) (H : Hp) (C : Addr) (cl : List (Str × Addr)) (fp : List Addr), DX (X.blk s H scope (compEnvC scope cl C X.env) fp) G W0 k → PG (X.blk s H scope (compEnvC scope cl C X.env) fp) tg (gTg X.K t))
    (htt : ∀ (s : Shared) (H : Hp) (C : Addr) (cl : List (Str × Addr)) (fp : List Addr), DX (X.blk s H scope (compEnvC scope cl C X.env) fp) G W0 k → PTs (X.blk s H scope (compEnvC scope cl C X.env) fp) ifs (wpT X.K G W0 tt))
    (he : ∀ (s : Shared) (H : Hp) (C : Addr) (cl : List (Str × Addr)) (fp : List Addr), DX (X.blk s H scope (compEnvC scope cl C X.env) fp) G W0 k → PE (X.blk s H scope (compEnvC scope cl C X.env) fp) elt (wpE X.K G W0 me))
    (hin : t.ins (own.map (·.2)) = true := by decide) (hy : X.N[i]? = some y := by rfl) (hyl : X.env.scope.names.lookup y = some .local := by rfl) (hs : ∀ x, foldedSetIterable iter X.env x = pure x := by intro _; rfl) :
    PS X (.Assign [.Name y py] (.ListComp elt [⟨tg, iter, ifs, 0⟩] scope pos) spos) (wpS X.K G W (sSet i (mLcV mi t tt me (own.map (·.2))))) := by
  refine ps_conv (ps_setLc (i := i) d.calm d.nd hy hyl hsw hi (blkOk_by ok) (fun s H C cl fp => hg s H C cl fp (d.blk ..)) (fun s H C cl fp => htt s H C cl fp (d.blk ..)) (fun s H C cl fp => he s H C cl fp (d.blk ..)) hs) ?_
  rintro D σ H ⟨φ, ρ, S, em, rs, h⟩
  refine lc_ok (W := W) (fun _ _ _ z => z) hin σ H _ ⟨φ, ρ, S, em, rs, outR.exit em (outR.st rs h fun v S1 φ1 y H1 x em1 rv h1 => ?_)⟩
  exact h1 φ1 _ H1 .refl em1 ((rs.ext x).set i rv)
end
end MP

set_option Elab.async false
set_option linter.all false
set_option maxRecDepth 100000
set_option maxHeartbeats 4000000
namespace MP
open PySem L2
/-! ### the mirrors' steps, one row each (no step looks into what comes behind) -/
section
variable {α : Type} {f : D → D → Sto → Res D} {a b m mo : MEx} {ma mb mc : MTs} {ms : MAr} {ρ ρ' : Rho} {S S' : Sto} {d x y : D} {ds : List D} {e : Ex} {n : Nat} {mf : MFn} {c : Cl} {sa sb : MSt} {is : List Nat} {i : Nat} {t : Tg}
def kVar (o : Option (Option D)) (S : Sto) : Res D := match o with
  | some (some d) => .ok d S
  | _ => .stuck
theorem r_var : mVar i ρ S = kVar ρ[i]? S := by unfold mVar kVar; rfl
theorem kVar_ok : kVar (some (some d)) S = .ok d S := rfl
theorem r_c : mC d ρ S = .ok d S := rfl
def kOpA (r : Res D) (f : D → D → Sto → Res D) (b : MEx) (ρ : Rho) : Res D := r.bind fun x S1 => (b ρ S1).bind fun y S2 => f x y S2
def kOpB (r : Res D) (f : D → D → Sto → Res D) (x : D) : Res D := r.bind fun y S2 => f x y S2
theorem r_op2 : mOp2 f a b ρ S = kOpA (a ρ S) f b ρ := rfl
theorem kOpA_ok : kOpA (.ok x S) f b ρ = kOpB (b ρ S) f x := rfl
theorem kOpA_exc : kOpA (.exc e S) f b ρ = .exc e S := rfl
theorem kOpB_ok : kOpB (.ok y S) f x = f x y S := rfl
theorem kOpB_exc : kOpB (.exc e S) f x = .exc e S := rfl
theorem r_test : mTest m ρ S = (m ρ S).bind asB := rfl
theorem r_asB {k : Bool} : asB (.bl k) S = .ok k S := rfl
def kAnd (r : Res Bool) (b : MTs) (ρ : Rho) : Res Bool := r.bind fun c S1 => if c = true then b ρ S1 else .ok false S1
def kOr (r : Res Bool) (b : MTs) (ρ : Rho) : Res Bool := r.bind fun c S1 => if c = true then .ok true S1 else b ρ S1
def kNot (r : Res Bool) : Res Bool := r.bind fun c S1 => .ok (!c) S1
theorem r_and : tAnd' ma mb ρ S = kAnd (ma ρ S) mb ρ := rfl
theorem r_or : tOr' ma mb ρ S = kOr (ma ρ S) mb ρ := rfl
theorem r_not : tNot' ma ρ S = kNot (ma ρ S) := rfl
theorem kAnd_t : kAnd (.ok true S) mb ρ = mb ρ S := rfl
theorem kAnd_f : kAnd (.ok false S) mb ρ = .ok false S := rfl
theorem kAnd_exc : kAnd (.exc e S) mb ρ = .exc e S := rfl
theorem kOr_t : kOr (.ok true S) mb ρ = .ok true S := rfl
theorem kOr_f : kOr (.ok false S) mb ρ = mb ρ S := rfl
theorem kOr_exc : kOr (.exc e S) mb ρ = .exc e S := rfl
theorem kNot_ok {k : Bool} : kNot (.ok k S) = .ok (!k) S := rfl
theorem kNot_exc : kNot (.exc e S) = .exc e S := rfl
def kMAnd (r : Res D) (b : MEx) (ρ : Rho) : Res D := r.bind fun d S1 => match d with
  | .bl true => b ρ S1
  | .bl false => .ok (.bl false) S1
  | _ => .stuck
def kMOr (r : Res D) (b : MEx) (ρ : Rho) : Res D := r.bind fun d S1 => match d with
  | .bl true => .ok (.bl true) S1
  | .bl false => b ρ S1
  | _ => .stuck
def kMNot (r : Res D) : Res D := r.bind fun d S1 => match d with
  | .bl b => .ok (.bl (!b)) S1
  | _ => .stuck
theorem r_mand : mAnd a b ρ S = kMAnd (a ρ S) b ρ := rfl
theorem r_mor : mOr a b ρ S = kMOr (a ρ S) b ρ := rfl
theorem r_mnot : mNot a ρ S = kMNot (a ρ S) := rfl
theorem kMAnd_t : kMAnd (.ok (.bl true) S) b ρ = b ρ S := rfl
theorem kMAnd_f : kMAnd (.ok (.bl false) S) b ρ = .ok (.bl false) S := rfl
theorem kMOr_t : kMOr (.ok (.bl true) S) b ρ = .ok (.bl true) S := rfl
theorem kMOr_f : kMOr (.ok (.bl false) S) b ρ = b ρ S := rfl
theorem kMNot_ok {k : Bool} : kMNot (.ok (.bl k) S) = .ok (.bl (!k)) S := rfl
def kIfE (r : Res Bool) (a b : MEx) (ρ : Rho) : Res D := r.bind fun t S1 => if t = true then a ρ S1 else b ρ S1
theorem r_ife : mIfE mc a b ρ S = kIfE (mc ρ S) a b ρ := rfl
theorem kIfE_t : kIfE (.ok true S) a b ρ = a ρ S := rfl
theorem kIfE_f : kIfE (.ok false S) a b ρ = b ρ S := rfl
theorem kIfE_exc : kIfE (.exc e S) a b ρ = .exc e S := rfl
theorem r_anil : aNil ρ S = .ok [] S := rfl
def kArg (r : Res D) (ms : MAr) (ρ : Rho) : Res (List D) := r.bind fun d S1 => (ms ρ S1).bind fun ds S2 => .ok (d :: ds) S2
def kArgs (r : Res (List D)) (d : D) : Res (List D) := r.bind fun ds S2 => .ok (d :: ds) S2
theorem r_acons : aCons a ms ρ S = kArg (a ρ S) ms ρ := rfl
theorem kArg_ok : kArg (.ok d S) ms ρ = kArgs (ms ρ S) d := rfl
theorem kArg_exc : kArg (.exc e S) ms ρ = .exc e S := rfl
theorem kArgs_ok : kArgs (.ok ds S) d = .ok (d :: ds) S := rfl
theorem kArgs_exc : kArgs (.exc e S) d = .exc e S := rfl
theorem r_tup : mTup ms ρ S = (ms ρ S).bind tupD := rfl
theorem r_lst {tr : Bool} : mLst tr ms ρ S = (ms ρ S).bind (lstD tr) := rfl
theorem r_fld {f : Fl} : mFld f a ρ S = (a ρ S).bind (getF f) := rfl
def kCall (r : Res (List D)) (n : Nat) (mf : MFn) : Res D := r.bind fun ds S1 => if ds.length = n then mf ds S1 else .stuck
theorem r_call : mCall n mf ms ρ S = kCall (ms ρ S) n mf := rfl
theorem kCall_ok (h : ds.length = n) : kCall (.ok ds S) n mf = mf ds S := if_pos h
theorem kCall_exc : kCall (.exc e S) n mf = .exc e S := rfl
theorem r_call0 : mCall0 mf ρ S = noX (mf [] S) := rfl
theorem noX_ok {u : α} : noX (.ok u S) = .ok u S := rfl
def kM1 (r : Res D) (c : Cl) (n : Nat) (mf : MFn) (ms : MAr) (ρ : Rho) : Res D := r.bind fun d S1 => (selfC c d S1).bind fun _ _ => (ms ρ S1).bind fun ds S2 => if ds.length + 1 = n then mf (d :: ds) S2 else .stuck
def kM2 (r : Res D) (d : D) (n : Nat) (mf : MFn) (ms : MAr) (ρ : Rho) (S : Sto) : Res D := r.bind fun _ _ => (ms ρ S).bind fun ds S2 => if ds.length + 1 = n then mf (d :: ds) S2 else .stuck
def kM3 (r : Res (List D)) (d : D) (n : Nat) (mf : MFn) : Res D := r.bind fun ds S2 => if ds.length + 1 = n then mf (d :: ds) S2 else .stuck
theorem r_meth : mMeth c n mf mo ms ρ S = kM1 (mo ρ S) c n mf ms ρ := rfl
theorem kM1_ok : kM1 (.ok d S) c n mf ms ρ = kM2 (selfC c d S) d n mf ms ρ S := rfl
theorem kM1_exc : kM1 (.exc e S) c n mf ms ρ = .exc e S := rfl
theorem kM2_ok : kM2 (.ok x S') d n mf ms ρ S = kM3 (ms ρ S) d n mf := rfl
theorem kM2_stuck : kM2 .stuck d n mf ms ρ S = .stuck := rfl
theorem kM3_ok (h : ds.length + 1 = n) : kM3 (.ok ds S) d n mf = mf (d :: ds) S := if_pos h
theorem kM3_exc : kM3 (.exc e S) d n mf = .exc e S := rfl
def kN1 (r : Res D) (c : Cl) (mf : MFn) : Res D := r.bind fun d S1 => (selfC c d S1).bind fun _ _ => noX (mf [d] S1)
def kN2 (r : Res D) (d : D) (mf : MFn) (S : Sto) : Res D := r.bind fun _ _ => noX (mf [d] S)
theorem r_meth0 : mMeth0 c mf mo ρ S = kN1 (mo ρ S) c mf := rfl
theorem kN1_ok : kN1 (.ok d S) c mf = kN2 (selfC c d S) d mf S := rfl
theorem kN1_exc : kN1 (.exc e S) c mf = .exc e S := rfl
theorem kN2_ok : kN2 (.ok x S') d mf S = noX (mf [d] S) := rfl
theorem kN2_stuck : kN2 .stuck d mf S = .stuck := rfl
theorem selfC_ok {l : Nat} {fs : List (Fl × D)} (h : S[l]? = some (.ins c fs)) : selfC c (.loc l) S = .ok (.loc l) S := by unfold selfC; simp only [h, if_true]
theorem selfC_no {l : Nat} {c' : Cl} {fs : List (Fl × D)} (h : S[l]? = some (.ins c' fs)) (hc : c' ≠ c) : selfC c (.loc l) S = .stuck := by unfold selfC; simp only [h, if_neg hc]
def kMake (r : Res (List D)) (c : Cl) (n : Nat) (mf : MFn) : Res D := r.bind fun ds S1 => if ds.length + 1 = n then mkEnd S1.length (mf (.loc S1.length :: ds) (S1 ++ [.ins c []])) else .stuck
theorem r_make : mMake c n mf ms ρ S = kMake (ms ρ S) c n mf := rfl
theorem kMake_ok (h : ds.length + 1 = n) : kMake (.ok ds S) c n mf = mkEnd S.length (mf (.loc S.length :: ds) (S ++ [.ins c []])) := if_pos h
theorem mkEnd_ok {l : Nat} : mkEnd l (.ok .non S) = .ok (.loc l) S := rfl
theorem r_cb {g : List D → Sto → Res D} : mCB g ms ρ S = (ms ρ S).bind g := rfl
theorem r_isi {T : String} : mIsi T a ρ S = (a ρ S).bind (isiR T) := rfl
theorem isiR_ok {T u : String} (h : d.ty S = some u) : isiR T d S = .ok (.bl (isT u T)) S := by unfold isiR; simp only [h]
def kBM1 (r : Res D) (p : D → Sto → Bool) (g : D → List D → Sto → Res D) (ms : MAr) (ρ : Rho) : Res D := r.bind fun d S1 => if p d S1 = true then (ms ρ S1).bind fun ds S2 => g d ds S2 else .stuck
def kBM2 (r : Res (List D)) (g : D → List D → Sto → Res D) (d : D) : Res D := r.bind fun ds S2 => g d ds S2
theorem r_bm {p : D → Sto → Bool} {g : D → List D → Sto → Res D} : mBM p g mo ms ρ S = kBM1 (mo ρ S) p g ms ρ := rfl
theorem kBM1_ok {p : D → Sto → Bool} {g : D → List D → Sto → Res D} (h : p d S = true) : kBM1 (.ok d S) p g ms ρ = kBM2 (ms ρ S) g d := if_pos h
theorem kBM2_ok {g : D → List D → Sto → Res D} : kBM2 (.ok ds S) g d = g d ds S := rfl
def kAlt (r : Res D) (b : MEx) (ρ : Rho) (S : Sto) : Res D := match r with
  | .stuck => b ρ S
  | r => r
theorem r_alt : mAlt a b ρ S = kAlt (a ρ S) b ρ S := rfl
theorem kAlt_ok : kAlt (.ok d S') b ρ S = .ok d S' := rfl
theorem kAlt_exc : kAlt (.exc e S') b ρ S = .exc e S' := rfl
theorem kAlt_stuck : kAlt .stuck b ρ S = b ρ S := rfl
def kSl1 (tr : Bool) (r : Res D) (ml mh : MPt) (ρ : Rho) : Res D := r.bind fun o S1 => (ml ρ S1).bind fun lo S2 => (mh ρ S2).bind fun hi S3 => slD' tr o lo hi S3
def kSl2 (tr : Bool) (r : Res (Option Int)) (o : D) (mh : MPt) (ρ : Rho) : Res D := r.bind fun lo S2 => (mh ρ S2).bind fun hi S3 => slD' tr o lo hi S3
def kSl3 (tr : Bool) (r : Res (Option Int)) (o : D) (lo : Option Int) : Res D := r.bind fun hi S3 => slD' tr o lo hi S3
theorem r_sl {tr : Bool} {ml mh : MPt} : mSl' tr mo ml mh ρ S = kSl1 tr (mo ρ S) ml mh ρ := rfl
theorem kSl1_ok {tr : Bool} {ml mh : MPt} : kSl1 tr (.ok d S) ml mh ρ = kSl2 tr (ml ρ S) d mh ρ := rfl
theorem kSl2_ok {tr : Bool} {lo : Option Int} {mh : MPt} : kSl2 tr (.ok lo S) d mh ρ = kSl3 tr (mh ρ S) d lo := rfl
theorem kSl3_ok {tr : Bool} {lo hi : Option Int} : kSl3 tr (.ok hi S) d lo = slD' tr d lo hi S := rfl
theorem r_ptN : ptNone ρ S = .ok none S := rfl
theorem r_ptS : ptSome m ρ S = (m ρ S).bind optI := rfl
theorem optI_ok {j : Int} : optI (.int j) S = .ok (some j) S := rfl
/-! statements -/
theorem r_nil : sNil ρ S = .nx ρ S := rfl
def kSeq (r : SR) (b : MSt) : SR := match r with
  | .nx ρ' S' => b ρ' S'
  | r => r
theorem r_seq : sSeq sa sb ρ S = kSeq (sa ρ S) sb := by unfold sSeq kSeq; rfl
theorem kSeq_nx : kSeq (.nx ρ S) sb = sb ρ S := rfl
theorem kSeq_rt : kSeq (.rt d S) sb = .rt d S := rfl
theorem kSeq_xc : kSeq (.xc e ρ S) sb = .xc e ρ S := rfl
theorem kSeq_bk : kSeq (.bk ρ S) sb = .bk ρ S := rfl
theorem kSeq_ct : kSeq (.ct ρ S) sb = .ct ρ S := rfl
def kClr (r : SR) (is : List Nat) : SR := match r with
  | .nx ρ' S' => .nx (clr is ρ') S'
  | r => r
theorem r_clr : sClr is sa ρ S = kClr (sa ρ S) is := by unfold sClr kClr; rfl
theorem kClr_nx : kClr (.nx ρ S) is = .nx (clr is ρ) S := rfl
theorem kClr_rt : kClr (.rt d S) is = .rt d S := rfl
theorem kClr_xc : kClr (.xc e ρ S) is = .xc e ρ S := rfl
theorem kClr_bk : kClr (.bk ρ S) is = .bk ρ S := rfl
theorem kClr_ct : kClr (.ct ρ S) is = .ct ρ S := rfl
theorem clr_nil : clr [] ρ = ρ := rfl
theorem clr_cons : clr (i :: is) ρ = (clr is ρ).set i none := rfl
def kSet (r : Res D) (i : Nat) (ρ : Rho) : SR := r.st ρ fun d S1 => .nx (ρ.set i (some d)) S1
theorem r_set : sSet i m ρ S = kSet (m ρ S) i ρ := rfl
theorem kSet_ok : kSet (.ok d S) i ρ = .nx (ρ.set i (some d)) S := rfl
theorem kSet_exc : kSet (.exc e S) i ρ = .xc e ρ S := rfl
def kExpr (r : Res D) (ρ : Rho) : SR := r.st ρ fun _ S1 => .nx ρ S1
theorem r_expr : sExpr m ρ S = kExpr (m ρ S) ρ := rfl
theorem kExpr_ok : kExpr (.ok d S) ρ = .nx ρ S := rfl
theorem kExpr_exc : kExpr (.exc e S) ρ = .xc e ρ S := rfl
def kRet (r : Res D) (ρ : Rho) : SR := r.st ρ fun d S1 => .rt d S1
theorem r_ret : sRet m ρ S = kRet (m ρ S) ρ := rfl
theorem kRet_ok : kRet (.ok d S) ρ = .rt d S := rfl
theorem kRet_exc : kRet (.exc e S) ρ = .xc e ρ S := rfl
theorem r_retN : sRetN ρ S = .rt .non S := rfl
def kSIf (r : Res Bool) (a b : MSt) (ρ : Rho) : SR := r.st ρ fun t S1 => if t = true then a ρ S1 else b ρ S1
theorem r_if : sIf mc sa sb ρ S = kSIf (mc ρ S) sa sb ρ := rfl
theorem kSIf_t : kSIf (.ok true S) sa sb ρ = sa ρ S := rfl
theorem kSIf_f : kSIf (.ok false S) sa sb ρ = sb ρ S := rfl
theorem kSIf_exc : kSIf (.exc e S) sa sb ρ = .xc e ρ S := rfl
theorem r_brk : sBrk ρ S = .bk ρ S := rfl
theorem r_cont : sCont ρ S = .ct ρ S := rfl
def kFor (r : Res MIt) (t : Tg) (b : MSt) (ρ : Rho) : SR := r.st ρ fun it S1 => forGo it t b it.fuel 0 ρ S1
theorem r_for {mi : MIx} : sFor mi t sb ρ S = kFor (mi ρ S) t sb ρ := rfl
theorem kFor_ok {it : MIt} : kFor (.ok it S) t sb ρ = forGo it t sb it.fuel 0 ρ S := rfl
def kIt (r : Option MIt) (S : Sto) : Res MIt := match r with
  | some it => .ok it S
  | none => .stuck
def kItA {α : Type} (r : Res α) (f : α → Sto → Option MIt) : Res MIt := r.it f
theorem kItA_ok {g : α → Sto → Option MIt} {u : α} : kItA (.ok u S) g = kIt (g u S) S := by unfold kItA Res.it kIt; rfl
theorem kIt_some {it : MIt} : kIt (some it) S = .ok it S := rfl
theorem r_itL : miL m ρ S = kItA (m ρ S) itL := rfl
theorem r_itT : miT m ρ S = kItA (m ρ S) itT := rfl
theorem r_itS : miS m ρ S = kItA (m ρ S) itS := rfl
theorem r_itR1 : miR1 ms ρ S = kItA (ms ρ S) itR1 := rfl
theorem r_itR2 : miR2 ms ρ S = kItA (ms ρ S) itR2 := rfl
theorem r_itEn : miEn ms ρ S = kItA (ms ρ S) itEn := rfl
def kAsg (r : Res D) (t : Tg) (ρ : Rho) : SR := r.st ρ fun d S1 => sTgO (tgM t d ρ S1) S1
theorem r_asg : sAsg t m ρ S = kAsg (m ρ S) t ρ := rfl
theorem kAsg_ok : kAsg (.ok d S) t ρ = sTgO (tgM t d ρ S) S := rfl
theorem sTgO_some : sTgO (some ρ) S = .nx ρ S := rfl
theorem tgM_nm : tgM (.nm i) d ρ S = some (ρ.set i (some d)) := rfl
theorem tgM_tp (h : items S d = some ds) (hl : ds.length = is.length) : tgM (.tp is) d ρ S = some (setAllM ρ is ds) := by simp only [tgM, h, if_pos hl]
theorem setAllM_nil : setAllM ρ [] [] = ρ := rfl
theorem setAllM_cons : setAllM ρ (i :: is) (d :: ds) = setAllM (ρ.set i (some d)) is ds := rfl
def kAug1 (o : Option (Option D)) (m : MEx) (f : D → D → Sto → Res D) (i : Nat) (ρ : Rho) (S : Sto) : SR := match o with
  | some (some x) => (m ρ S).st ρ fun y S1 => (f x y S1).st ρ fun z S2 => .nx (ρ.set i (some z)) S2
  | _ => .stuck
def kAug2 (r : Res D) (x : D) (f : D → D → Sto → Res D) (i : Nat) (ρ : Rho) : SR := r.st ρ fun y S1 => (f x y S1).st ρ fun z S2 => .nx (ρ.set i (some z)) S2
theorem r_aug : sAug i f m ρ S = kAug1 ρ[i]? m f i ρ S := by unfold sAug kAug1; rfl
theorem kAug1_ok : kAug1 (some (some x)) m f i ρ S = kAug2 (m ρ S) x f i ρ := rfl
theorem kAug2_ok : kAug2 (.ok y S) x f i ρ = kSet (f x y S) i ρ := rfl
def kFS1 (r : Res D) (f : Fl) (mo : MEx) (ρ : Rho) : SR := r.st ρ fun v S1 => (mo ρ S1).st ρ fun o S2 => nxO ρ (setF f o v S2)
def kFS2 (r : Res D) (f : Fl) (v : D) (ρ : Rho) : SR := r.st ρ fun o S2 => nxO ρ (setF f o v S2)
theorem r_fs {f : Fl} : sFldS f mo m ρ S = kFS1 (m ρ S) f mo ρ := rfl
theorem kFS1_ok {f : Fl} : kFS1 (.ok d S) f mo ρ = kFS2 (mo ρ S) f d ρ := rfl
theorem kFS2_ok {f : Fl} : kFS2 (.ok x S) f d ρ = nxO ρ (setF f x d S) := rfl
theorem nxO_some : nxO ρ (some S) = .nx ρ S := rfl
def kSL1 (r : Res D) (mo mi : MEx) (ρ : Rho) : SR := r.st ρ fun v S1 => (mo ρ S1).st ρ fun o S2 => (mi ρ S2).st ρ fun i S3 => nxO ρ (setI o i v S3)
def kSL2 (r : Res D) (mi : MEx) (v : D) (ρ : Rho) : SR := r.st ρ fun o S2 => (mi ρ S2).st ρ fun i S3 => nxO ρ (setI o i v S3)
def kSL3 (r : Res D) (o v : D) (ρ : Rho) : SR := r.st ρ fun i S3 => nxO ρ (setI o i v S3)
theorem r_sl1 {mi : MEx} : sSetL mo mi m ρ S = kSL1 (m ρ S) mo mi ρ := rfl
theorem kSL1_ok {mi : MEx} : kSL1 (.ok d S) mo mi ρ = kSL2 (mo ρ S) mi d ρ := rfl
theorem kSL2_ok {mi : MEx} : kSL2 (.ok x S) mi d ρ = kSL3 (mi ρ S) x d ρ := rfl
theorem kSL3_ok : kSL3 (.ok y S) x d ρ = nxO ρ (setI x y d S) := rfl
def kFn (r : SR) : Res D := r.fn
theorem r_fnB {N : Nat} : fnB N sb ds S = kFn (sb (ds.map some ++ List.replicate (N - ds.length) none) S) := rfl
theorem kFn_nx : kFn (.nx ρ S) = .ok .non S := rfl
theorem kFn_rt : kFn (.rt d S) = .ok d S := rfl
theorem kFn_xc : kFn (.xc e ρ S) = .exc e S := rfl
def kLc (r : Res MIt) (t : Tg) (tt : MTs) (me : MEx) (own : List Nat) (ρ : Rho) : Res D := r.bind fun it S1 => lcGo it t tt me (clr own ρ) S1.length it.fuel 0 (S1 ++ [.lst []])
theorem r_lc {mi : MIx} {me : MEx} {own : List Nat} : mLc mi t mc me own ρ S = kLc (mi ρ S) t mc me own ρ := rfl
theorem kLc_ok {it : MIt} {me : MEx} {own : List Nat} : kLc (.ok it S) t mc me own ρ = lcGo it t mc me (clr own ρ) S.length it.fuel 0 (S ++ [.lst []]) := rfl
theorem r_yes : tYesM ρ S = .ok true S := rfl
/-! what is read of the store -/
def kTg (o : Option (List D)) (is : List Nat) (ρ : Rho) (S : Sto) : SR := match o with
  | some xs => if xs.length = is.length then .nx (setAllM ρ is xs) S else .stuck
  | none => .stuck
theorem r_tgtp : sTgO (tgM (.tp is) d ρ S) S = kTg (items S d) is ρ S := by
  simp only [tgM]
  generalize items S d = o
  cases o with
  | none => rfl
  | some xs =>
    dsimp only [kTg]
    by_cases h : xs.length = is.length
    · rw [if_pos h, if_pos h]; rfl
    · rw [if_neg h, if_neg h]; rfl
theorem kTg_ok (h : ds.length = is.length) : kTg (some ds) is ρ S = .nx (setAllM ρ is ds) S := if_pos h
def kLst (o : Option O) : Option (List D) := match o with
  | some (.lst xs) => some xs
  | _ => none
theorem r_lstO {l : Nat} : lstO S (.loc l) = kLst S[l]? := by unfold lstO kLst; rfl
theorem lstO_vl : lstO S (.vl ds) = some ds := rfl
theorem lstO_cl : lstO S (.cl ds) = some ds := rfl
theorem lstO_vd {ks : List Key} : lstO S (.vd ks ds) = none := rfl
theorem kLst_ok : kLst (some (.lst ds)) = some ds := rfl
theorem kLst_d {kvs : List (Key × D)} : kLst (some (.dct fz kvs)) = none := rfl
theorem r_lsmO {l : Nat} : lsmO S (.loc l) = kLst S[l]? := by unfold lsmO kLst; rfl
theorem lsmO_vl : lsmO S (.vl ds) = some ds := rfl
theorem r_items {l : Nat} : items S (.loc l) = kLst S[l]? := by unfold items lstO kLst; rfl
theorem r_itemsT : items S (.tup ds) = some ds := rfl
theorem items_vl : items S (.vl ds) = some ds := rfl
theorem items_cl : items S (.cl ds) = some ds := rfl
theorem items_vd {ks : List Key} : items S (.vd ks ds) = none := rfl
def kSelf (o : Option O) (c : Cl) (l : Nat) (S : Sto) : Res D := match o with
  | some (.ins c' _) => if c' = c then .ok (.loc l) S else .stuck
  | _ => .stuck
theorem r_self {l : Nat} : selfC c (.loc l) S = kSelf S[l]? c l S := by unfold selfC kSelf; rfl
theorem self_vo {fs : List Fl} {xs : List D} : selfC c (.vo c fs xs) S = .ok (.vo c fs xs) S := if_pos rfl
theorem self_vo_no {c' : Cl} {fs : List Fl} {xs : List D} (h : c' ≠ c) : selfC c (.vo c' fs xs) S = .stuck := if_neg h
theorem kSelf_ok {fs : List (Fl × D)} {l : Nat} : kSelf (some (.ins c fs)) c l S = .ok (.loc l) S := if_pos rfl
theorem kSelf_no {fs : List (Fl × D)} {l : Nat} {c' : Cl} (h : c' ≠ c) : kSelf (some (.ins c' fs)) c l S = .stuck := if_neg h
def kIsi (o : Option String) (T : String) (d : D) (S : Sto) : Res D := match o with
  | some u => .ok (.bl (isT u T)) S
  | none => .stuck
theorem r_isiR {T : String} : isiR T d S = kIsi (d.ty S) T d S := by unfold isiR kIsi; rfl
theorem kIsi_ok {T u : String} : kIsi (some u) T d S = .ok (.bl (isT u T)) S := rfl
def kTy (o : Option O) : Option String := match o with
  | some (.lst _) => some "list"
  | some (.dct _ _) => some "dict"
  | _ => none
theorem r_ty {l : Nat} : D.ty (.loc l) S = kTy S[l]? := by unfold D.ty kTy; rfl
theorem kTy_l : kTy (some (.lst ds)) = some "list" := rfl
def kGetF (o : Option O) (f : Fl) (S : Sto) : Res D := match o with
  | some (.ins _ fs) => match fs.lookup f with
    | some x => .ok x S
    | none => .stuck
  | _ => .stuck
theorem r_getF {f : Fl} {l : Nat} : getF f (.loc l) S = kGetF S[l]? f S := by unfold getF kGetF; rfl
def kLk (o : Option D) (S : Sto) : Res D := match o with
  | some x => .ok x S
  | none => .stuck
theorem kGetF_ok {f : Fl} {fs : List (Fl × D)} : kGetF (some (.ins c fs)) f S = kLk (fs.lookup f) S := by unfold kGetF kLk; rfl
theorem getF_vo {f : Fl} {fs : List Fl} {xs : List D} : getF f (.vo c fs xs) S = kLk ((fs.zip xs).lookup f) S := by unfold getF kLk; rfl
theorem kLk_ok : kLk (some x) S = .ok x S := rfl
theorem lk_yes {f : Fl} {fs : List (Fl × D)} : List.lookup f ((f, x) :: fs) = some x := by simp [List.lookup]
theorem lk_no {f g : Fl} {fs : List (Fl × D)} (h : (f == g) = false) : List.lookup f ((g, x) :: fs) = List.lookup f fs := by simp only [List.lookup, h]
def kSetF (o : Option O) (f : Fl) (v : D) (l : Nat) (S : Sto) : Option Sto := match o with
  | some (.ins c fs) => if okF c f = true ∧ fs.length < 1000 then some (S.set l (.ins c (putFl f v fs))) else none
  | _ => none
theorem r_setF {f : Fl} {l : Nat} : setF f (.loc l) d S = kSetF S[l]? f d l S := by unfold setF kSetF; rfl
theorem kSetF_ok {f : Fl} {l : Nat} {fs : List (Fl × D)} (h : okF c f = true) (hl : fs.length < 1000) : kSetF (some (.ins c fs)) f d l S = some (S.set l (.ins c (putFl f d fs))) := if_pos ⟨h, hl⟩
def kItL (o : Option O) (l : Nat) : Option MIt := match o with
  | some (.lst xs) => some ⟨lstGet l, xs.length + 1⟩
  | _ => none
theorem r_itLl {l : Nat} : itL (.loc l) S = kItL S[l]? l := by unfold itL kItL; rfl
theorem kItL_ok {l : Nat} : kItL (some (.lst ds)) l = some ⟨lstGet l, ds.length + 1⟩ := rfl
theorem itL_vl : itL (.vl ds) S = some ⟨fixGet ds, ds.length + 1⟩ := rfl
theorem itL_cl : itL (.cl ds) S = some ⟨fixGet ds, ds.length + 1⟩ := rfl
theorem itT_ok : itT (.tup ds) S = some ⟨fixGet ds, ds.length + 1⟩ := rfl
theorem itEn_vl : itEn [.vl ds] S = some ⟨enFix ds, ds.length + 1⟩ := rfl
theorem itEn_cl : itEn [.cl ds] S = some ⟨enFix ds, ds.length + 1⟩ := rfl
theorem isL_some {x : D} (h : lstO S x = some ds) : isL x S = true := by unfold isL; rw [h]; rfl
theorem isL_vl : isL (.vl ds) S = true := rfl
theorem isL_cl : isL (.cl ds) S = true := rfl
def kIsL (o : Option O) : Bool := match o with
  | some (.lst _) => true
  | _ => false
theorem r_isL {l : Nat} : isL (.loc l) S = kIsL S[l]? := by
  (unfold isL; rw [r_lstO]) <;> (generalize S[l]? = o; rcases o with _ | _ | _ | _ <;> rfl)
theorem kIsL_ok : kIsL (some (.lst ds)) = true := rfl
def kApp (o : Option O) (l : Nat) (y : D) (S : Sto) : Res D := match o with
  | some (.lst xs) => if xs.length < sizeLine then .ok .non (S.set l (.lst (xs ++ [y]))) else .stuck
  | _ => .stuck
theorem r_lApp {l : Nat} : lAppend (.loc l) [y] S = kApp S[l]? l y S := by unfold lAppend kApp; rfl
theorem kApp_ok {l : Nat} (h : ds.length < sizeLine) : kApp (some (.lst ds)) l y S = .ok .non (S.set l (.lst (ds ++ [y]))) := if_pos h
theorem ixO_ok {j : Int} : ixO (some ds) j S = kLk (atI ds j) S := by
  (unfold ixO kLk; dsimp only) <;> (generalize atI ds j = o; cases o <;> rfl)
theorem r_getI {l : Nat} {j : Int} : getI (.loc l) (.int j) S = ixO (kLst S[l]?) j S := by rw [← r_lstO]; rfl
theorem getI_vl {j : Int} : getI (.vl ds) (.int j) S = kLk (atI ds j) S := ixO_ok
theorem getI_cl {j : Int} : getI (.cl ds) (.int j) S = kLk (atI ds j) S := ixO_ok
theorem r_getIT {j : Int} : getI (.tup ds) (.int j) S = kLk (atI ds j) S := by
  (unfold getI kLk; dsimp only) <;> (generalize atI ds j = o; cases o <;> rfl)
def kSetI (o : Option O) (j : Int) (v : D) (l : Nat) (S : Sto) : Option Sto := match o with
  | some (.lst xs) => match ixN xs.length j with
    | some n => some (S.set l (.lst (xs.set n v)))
    | none => none
  | _ => none
theorem r_setI {l : Nat} {j : Int} : setI (.loc l) (.int j) d S = kSetI S[l]? j d l S := by unfold setI kSetI; rfl
def kStO (o : Option Nat) (ds : List D) (v : D) (l : Nat) (S : Sto) : Option Sto := match o with
  | some n => some (S.set l (.lst (ds.set n v)))
  | none => none
theorem kSetI_ok {l : Nat} {j : Int} : kSetI (some (.lst ds)) j d l S = kStO (ixN ds.length j) ds d l S := by unfold kSetI kStO; rfl
theorem kStO_ok {l n : Nat} : kStO (some n) ds d l S = some (S.set l (.lst (ds.set n d))) := rfl
/-! values, ends -/
theorem newL_t : newL true ds S = .ok (.loc S.length) (S ++ [.lst ds]) := rfl
theorem newL_f (h : pureAll ds = true) : newL false ds S = .ok (.vl ds) S := if_pos h
theorem r_mEx {kp : Bool} : mEx kp m ρ S = exitR kp S (m ρ S) := rfl
theorem r_fnZ1 : fnZ 1 mf ds S = exitR false S (mf ds S) := rfl
theorem r_fnZ2 : fnZ 2 mf ds S = exitR true S (mf ds S) := rfl
theorem r_scp : sScp sa ρ S = scpR S (sa ρ S) := rfl
theorem r_makeN : mMakeN c ρ S = .ok (.vo c [] []) S := rfl
theorem exit_ok {kp : Bool} (h : Cld S S') : exitR kp S (.ok d S') = exK S.length S' (if kp = true then keepO S' S.length d else none) (fzD S' S.length 8 d) := if_pos h
theorem cld_app {T : Sto} : Cld S (S ++ T) := ⟨by simp, fun i hi => .inl (List.getElem?_append_left hi)⟩
theorem cld_self : Cld S S := ⟨Nat.le_refl _, fun i hi => .inl rfl⟩
theorem exit_app {kp : Bool} {T : Sto} : exitR kp S (.ok d (S ++ T)) = exK S.length (S ++ T) (if kp = true then keepO (S ++ T) S.length d else none) (fzD (S ++ T) S.length 8 d) := exit_ok cld_app
theorem exit_self {kp : Bool} : exitR kp S (.ok d S) = exK S.length S (if kp = true then keepO S S.length d else none) (fzD S S.length 8 d) := exit_ok cld_self
theorem exK_none {n : Nat} {o : Option D} : exK n S none o = exO n S o := rfl
theorem exK_some {n : Nat} {o : O} {p : Option D} : exK n S (some o) p = .ok (.loc n) (S.take n ++ [o]) := rfl
theorem exO_some {n : Nat} : exO n S (some d) = .ok d (S.take n) := rfl
theorem ite_f {α : Type} {a b : α} : (if (false = true) then a else b) = b := rfl
theorem ite_t {α : Type} {a b : α} : (if (true = true) then a else b) = a := rfl
theorem take_app {T : Sto} : (S ++ T).take S.length = S := by simp
theorem take_self : S.take S.length = S := by simp
theorem fz_pure {n k : Nat} (h : d.pureB = true) : fzD S n (k + 1) d = some d := by unfold fzD; rw [if_pos h]
theorem pure_non : D.pureB .non = true := rfl
theorem pure_bl {b : Bool} : D.pureB (.bl b) = true := rfl
theorem pure_int {i : Int} : D.pureB (.int i) = true := rfl
theorem pure_str {i : Str} : D.pureB (.str i) = true := rfl
theorem pure_vl : D.pureB (.vl ds) = true := rfl
theorem pure_cl : D.pureB (.cl ds) = true := rfl
theorem pure_vd {ks : List Key} : D.pureB (.vd ks ds) = true := rfl
theorem pure_vo {fs : List Fl} : D.pureB (.vo c fs ds) = true := rfl
theorem pure_tup : D.pureB (.tup ds) = pureAll ds := by simp only [D.pureB]
theorem pure_loc {l : Nat} : D.pureB (.loc l) = false := by simp only [D.pureB]
theorem pureAll_nil : pureAll [] = true := rfl
theorem pureAll_cons : pureAll (d :: ds) = (d.pureB && pureAll ds) := by simp only [pureAll]
def kFz (o : Option O) (S : Sto) (n k : Nat) : Option D := match o with
  | some (.lst xs) => vlO (optAll (fzD S n k) xs)
  | some (.dct false kvs) => vdO (kvs.map (·.1)) (optAll (fzD S n k) (kvs.map (·.2)))
  | some (.ins c fs) => voO c (fs.map (·.1)) (optAll (fzD S n k) (fs.map (·.2)))
  | _ => none
theorem fz_loc {n k l : Nat} (h : n ≤ l) : fzD S n (k + 1) (.loc l) = kFz S[l]? S n k := by
  unfold fzD
  rw [pure_loc, if_neg Bool.false_ne_true]
  dsimp only
  rw [if_neg (by omega)]
  unfold kFz
  rfl
theorem fz_loc0 {k : Nat} : fzD S' S.length (k + 1) (.loc S.length) = kFz S'[S.length]? S' S.length k := fz_loc (Nat.le_refl _)
theorem fz_locK {k j : Nat} : fzD S' S.length (k + 1) (.loc (S.length + j)) = kFz S'[S.length + j]? S' S.length k := fz_loc (Nat.le_add_right _ _)
theorem fz_old {n k l : Nat} (h : l < n) : fzD S n (k + 1) (.loc l) = some (.loc l) := by
  unfold fzD
  rw [pure_loc, if_neg Bool.false_ne_true]
  dsimp only
  rw [if_pos h]
theorem optAll_nil {n k : Nat} : optAll (fzD S n k) [] = some [] := rfl
theorem optAll_pure {n k : Nat} : ∀ {xs : List D}, pureAll xs = true → optAll (fzD S n (k + 1)) xs = some xs
  | [], _ => rfl
  | x :: xs, h => by
    simp only [pureAll, Bool.and_eq_true] at h
    unfold optAll
    rw [fz_pure h.1, optAll_pure h.2]
theorem kFz_lst {n k : Nat} (h : pureAll ds = true) : kFz (some (.lst ds)) S n (k + 1) = some (.vl ds) := by
  dsimp only [kFz]
  rw [optAll_pure h]
  dsimp only [vlO]
  rw [if_pos h]
theorem kFz_ins {n k : Nat} {fs : List (Fl × D)} (h : pureAll (fs.map (·.2)) = true) : kFz (some (.ins c fs)) S n (k + 1) = some (.vo c (fs.map (·.1)) (fs.map (·.2))) := by
  dsimp only [kFz]
  rw [optAll_pure h]
  dsimp only [voO]
  rw [if_pos h]
theorem kFz_dct {n k : Nat} {kvs : List (Key × D)} (h : pureAll (kvs.map (·.2)) = true) : kFz (some (.dct false kvs)) S n (k + 1) = some (.vd (kvs.map (·.1)) (kvs.map (·.2))) := by
  dsimp only [kFz]
  rw [optAll_pure h]
  dsimp only [vdO]
  rw [if_pos h]
theorem keep_lst {n l : Nat} (h : n ≤ l) (e : S[l]? = some (.lst ds)) (p : pureAll ds = true) : keepO S n (.loc l) = some (.lst ds) := by
  unfold keepO
  dsimp only
  rw [if_neg (by omega), e]
  dsimp only
  rw [if_pos p]
theorem keep_0 {T : Sto} (p : pureAll ds = true) : keepO (S ++ .lst ds :: T) S.length (.loc S.length) = some (.lst ds) := keep_lst (Nat.le_refl _) (by simp) p
theorem scp_nx (h : Cld S S') : scpR S (.nx ρ S') = scpE S' S.length (fzRho S' S.length ρ) .nx := if_pos h
theorem scp_ct (h : Cld S S') : scpR S (.ct ρ S') = scpE S' S.length (fzRho S' S.length ρ) .ct := if_pos h
theorem scp_nx_app {T : Sto} : scpR S (.nx ρ (S ++ T)) = scpE (S ++ T) S.length (fzRho (S ++ T) S.length ρ) .nx := scp_nx cld_app
theorem scp_nx_self : scpR S (.nx ρ S) = scpE S S.length (fzRho S S.length ρ) .nx := scp_nx cld_self
theorem scp_rt : scpR S (.rt d S') = .rt d S' := rfl
theorem scp_xc : scpR S (.xc e ρ S') = .xc e ρ S' := rfl
theorem scpE_some {n : Nat} {k : Rho → Sto → SR} : scpE S n (some ρ) k = k ρ (S.take n) := rfl
def kCn (o : Option (Option D)) (r : Option Rho) : Option Rho := match o, r with
  | some o, some r => some (o :: r)
  | _, _ => none
theorem kCn_ok {o : Option D} : kCn (some o) (some ρ) = some (o :: ρ) := rfl
theorem fzr_nil {n : Nat} : fzRho S n [] = some [] := rfl
theorem fzr_none {n : Nat} : fzRho S n (none :: ρ) = kCn (some none) (fzRho S n ρ) := by
  (unfold fzRho; rw [optAll]; dsimp only [fzSlot]; unfold kCn) <;> (generalize optAll (fzSlot S n) ρ = r; cases r <;> rfl)
def kSm (o : Option D) : Option (Option D) := match o with
  | some d => some (some d)
  | none => none
theorem kSm_ok : kSm (some d) = some (some d) := rfl
theorem fzr_some {n : Nat} : fzRho S n (some d :: ρ) = kCn (kSm (fzD S n 8 d)) (fzRho S n ρ) := by
  (unfold fzRho; rw [optAll]; dsimp only [fzSlot]; unfold kCn kSm) <;> (generalize optAll (fzSlot S n) ρ = r; generalize fzD S n 8 d = q; cases r <;> cases q <;> rfl)
end
end MP

set_option Elab.async false
set_option linter.all false
set_option maxRecDepth 100000
set_option maxHeartbeats 4000000
namespace MP
open PySem L2
/-! ### reckoning with the mirrors -/
theorem le_line {n : Nat} (h : n ≤ 100000) : (n ≤ sizeLine) = True := by
  rw [sizeLine_eq]
  exact eq_true (by omega)
theorem lt_line {n : Nat} (h : n ≤ 100000) : (n < sizeLine) = True := by
  rw [sizeLine_eq]
  exact eq_true (by omega)
theorem tupD_ok {ds : List D} {S : Sto} (h : ds.length ≤ 100000) : tupD ds S = .ok (.tup ds) S := by
  unfold tupD; rw [if_pos (by rw [le_line h]; trivial)]
theorem lstD_ok {tr : Bool} {ds : List D} {S : Sto} (h : ds.length ≤ 100000) : lstD tr ds S = newL tr ds S := by
  unfold lstD; rw [if_pos (by rw [le_line h]; trivial)]
theorem sub_int (i j : Int) (S : Sto) : intOp subI (.int i) (.int j) S = .ok (.int (i - j)) S := rfl
theorem add_int {tr : Bool} (i j : Int) (S : Sto) : addD tr (.int i) (.int j) S = .ok (.int (i + j)) S := rfl
theorem addI_int (i j : Int) (S : Sto) : intOp addI (.int i) (.int j) S = .ok (.int (i + j)) S := rfl
theorem mod_int {i j : Int} {S : Sto} (h : 0 < j) : intOp modI (.int i) (.int j) S = .ok (.int (i % j)) S := by
  unfold intOp modI; simp only [if_pos h]
theorem fdiv_int {i j : Int} {S : Sto} (h : 0 < j) (h2 : j.natAbs.log2 < 9000) : intOp fdivI (.int i) (.int j) S = .ok (.int (i / j)) S := by
  unfold intOp fdivI; simp only [if_pos (And.intro h h2)]
theorem mul_int' {tr : Bool} {i j : Int} {S : Sto} (h : (Builtin.Int.intBits i : Int) + (Builtin.Int.intBits j : Int) ≤ 134217728) : mulD tr (.int i) (.int j) S = .ok (.int (i * j)) S := by
  unfold mulD; simp only [if_pos h]
theorem mul_int {tr : Bool} {i j : Int} {S : Sto} {a b : Nat} (ha : i.natAbs < 2 ^ a) (hb : j.natAbs < 2 ^ b) (h : a + b ≤ 134217728) : mulD tr (.int i) (.int j) S = .ok (.int (i * j)) S := mul_int' (mulx_ok ha hb h)
theorem band_int (i j : Int) (S : Sto) : intOp andI (.int i) (.int j) S = .ok (.int (Builtin.bitAnd i j)) S := rfl
theorem bor_int (i j : Int) (S : Sto) : intOp orI (.int i) (.int j) S = .ok (.int (Builtin.bitOr i j)) S := rfl
theorem shr_int {i j : Int} {S : Sto} (h : 0 ≤ j) : intOp shrI (.int i) (.int j) S = .ok (.int (i / 2 ^ j.toNat)) S := by
  unfold intOp shrI; simp only [if_pos h]
theorem shl_int {i j : Int} {n : Nat} {S : Sto} (h0 : 0 ≤ j) (h : i.natAbs < 2 ^ n) (hn : n + j.toNat ≤ 134217728) : intOp shlI (.int i) (.int j) S = .ok (.int (i * 2 ^ j.toNat)) S := by
  have q := shl_ok h hn
  have e : ((j.toNat : Nat) : Int) = j := by omega
  rw [e] at q
  unfold intOp shlI
  simp only [if_pos (show 0 ≤ j ∧ (Builtin.Int.intBits i : Int) + j ≤ 2 ^ 27 from q)]
theorem pow_int {i j : Int} {S : Sto} (h : 0 ≤ j ∧ j ≤ 1000000 ∧ i.natAbs < 2 ^ 64) : intOp powI (.int i) (.int j) S = .ok (.int (i ^ j.toNat)) S := by
  unfold intOp powI; simp only [if_pos h]
theorem lt_int (i j : Int) (S : Sto) : cmpI ltI (.int i) (.int j) S = .ok (.bl (decide (i < j))) S := rfl
theorem le_int (i j : Int) (S : Sto) : cmpI leI (.int i) (.int j) S = .ok (.bl (decide (i ≤ j))) S := rfl
theorem gt_int (i j : Int) (S : Sto) : cmpI gtI (.int i) (.int j) S = .ok (.bl (decide (j < i))) S := rfl
theorem ge_int (i j : Int) (S : Sto) : cmpI geI (.int i) (.int j) S = .ok (.bl (decide (j ≤ i))) S := rfl
theorem eq_int (i j : Int) (S : Sto) : eqR (.int i) (.int j) S = .ok (.bl (decide (i = j))) S := rfl
theorem ne_int (i j : Int) (S : Sto) : neR (.int i) (.int j) S = .ok (.bl (!decide (i = j))) S := rfl
theorem eq_str (i j : Str) (S : Sto) : eqR (.str i) (.str j) S = .ok (.bl (decide (i = j))) S := rfl
theorem ne_str (i j : Str) (S : Sto) : neR (.str i) (.str j) S = .ok (.bl (!decide (i = j))) S := rfl
theorem is_non (d : D) (S : Sto) : isD d .non S = .ok (.bl d.isN) S := rfl
theorem isNot_non (d : D) (S : Sto) : isNotD d .non S = .ok (.bl (!d.isN)) S := rfl
theorem isN_non : D.isN .non = true := rfl
theorem isN_int (i : Int) : D.isN (.int i) = false := rfl
theorem isN_tup (xs : List D) : D.isN (.tup xs) = false := rfl
theorem isN_str (xs : Str) : D.isN (.str xs) = false := rfl
theorem isN_loc (l : Nat) : D.isN (.loc l) = false := rfl
theorem isN_bl (l : Bool) : D.isN (.bl l) = false := rfl
theorem cInt_int (i : Int) (S : Sto) : cInt [.int i] S = .ok (.int i) S := rfl
theorem cInt_bl (b : Bool) (S : Sto) : cInt [.bl b] S = .ok (.int (if b then 1 else 0)) S := rfl
theorem cAbs_int (i : Int) (S : Sto) : cAbs [.int i] S = .ok (.int (if i < 0 then -i else i)) S := rfl
theorem ty_int (i : Int) (S : Sto) : D.ty (.int i) S = some "int" := rfl
theorem ty_bl (i : Bool) (S : Sto) : D.ty (.bl i) S = some "bool" := rfl
theorem ty_str (i : Str) (S : Sto) : D.ty (.str i) S = some "str" := rfl
theorem ty_tup (i : List D) (S : Sto) : D.ty (.tup i) S = some "tuple" := rfl
theorem ty_non (S : Sto) : D.ty .non S = some "NoneType" := rfl
theorem isT_ii : isT "int" "int" = true := by decide
theorem isT_ib : isT "int" "bool" = false := by decide
theorem isT_bb : isT "bool" "bool" = true := by decide
theorem isT_bi : isT "bool" "int" = true := by decide
theorem isT_ni : isT "NoneType" "int" = false := by decide
/-- the list at l is read -/
theorem items_loc {S : Sto} {l : Nat} {xs : List D} (h : S[l]? = some (.lst xs)) : items S (.loc l) = some xs := by
  rw [r_items, h, kLst_ok]
theorem items_tup {S : Sto} {xs : List D} : items S (.tup xs) = some xs := rfl
theorem itL_ok {S : Sto} {l : Nat} {xs : List D} (h : S[l]? = some (.lst xs)) : itL (.loc l) S = some ⟨lstGet l, xs.length + 1⟩ := by
  rw [r_itLl, h, kItL_ok]
theorem lstGet_ok {S : Sto} {l : Nat} {xs : List D} (h : S[l]? = some (.lst xs)) (i : Nat) : lstGet l i S = some xs[i]? := by
  unfold lstGet; simp only [h]
theorem getI_loc {S : Sto} {l : Nat} {xs : List D} {j : Nat} {d : D} (h : S[l]? = some (.lst xs)) (hj : xs[j]? = some d) : getI (.loc l) (.int (j : Int)) S = .ok d S := by
  rw [r_getI, h, kLst_ok, ixO_ok, atI_nat hj, kLk_ok]
theorem getI_tup {S : Sto} {xs : List D} {j : Nat} {d : D} (hj : xs[j]? = some d) : getI (.tup xs) (.int (j : Int)) S = .ok d S := by
  unfold getI; simp only [atI_nat hj]
theorem lAppend_ok {S : Sto} {l : Nat} {xs : List D} {y : D} (h : S[l]? = some (.lst xs)) (hl : xs.length ≤ 100000) : lAppend (.loc l) [y] S = .ok .non (S.set l (.lst (xs ++ [y]))) := by
  unfold lAppend; simp only [h, lt_line hl, if_true]
theorem isL_ok {S : Sto} {l : Nat} {xs : List D} (h : S[l]? = some (.lst xs)) : isL (.loc l) S = true := by
  rw [r_isL, h, kIsL_ok]
/-! ### the store -/
theorem get_app {S T : Sto} {l : Nat} {o : O} (h : S[l]? = some o) : (S ++ T)[l]? = some o := by
  rw [List.getElem?_append_left (List.getElem?_eq_some_iff.mp h).1]; exact h
theorem get_last (S : Sto) (o : O) : (S ++ [o])[S.length]? = some o := by simp
theorem set_last (S : Sto) (o o' : O) : (S ++ [o]).set S.length o' = S ++ [o'] := by simp
/-! ### for -/
theorem forGo_ind {it : MIt} {t : Tg} {b : MSt} (xs : List D) (P : Nat → Rho → Sto → Prop) (Q : SR → Prop)
    (hget : ∀ i ρ S, i ≤ xs.length → P i ρ S → it.get i S = some xs[i]?)
    (hstep : ∀ i x ρ S, xs[i]? = some x → P i ρ S → ∃ ρ1, tgM t x ρ S = some ρ1 ∧ match b ρ1 S with
      | .nx ρ' S' => P (i + 1) ρ' S'
      | .ct ρ' S' => P (i + 1) ρ' S'
      | .bk ρ' S' => Q (.nx ρ' S')
      | r => Q r)
    (hend : ∀ ρ S, P xs.length ρ S → Q (.nx ρ S)) : ∀ m i ρ S, xs.length < m + i → i ≤ xs.length → P i ρ S → Q (forGo it t b m i ρ S)
  | 0, i, ρ, S, h1, h2, _ => by omega
  | m + 1, i, ρ, S, h1, h2, p => by
    unfold forGo
    rw [hget i ρ S h2 p]
    cases e : xs[i]? with
    | none =>
      have : xs.length ≤ i := List.getElem?_eq_none_iff.mp e
      have h3 : i = xs.length := by omega
      subst h3
      exact hend ρ S p
    | some x =>
      obtain ⟨ρ1, e1, hq⟩ := hstep i x ρ S e p
      have hi := (List.getElem?_eq_some_iff.mp e).1
      simp only [e1]
      cases qb : b ρ1 S with
      | nx ρ' S' => rw [qb] at hq; exact forGo_ind xs P Q hget hstep hend m (i + 1) ρ' S' (by omega) (by omega) hq
      | ct ρ' S' => rw [qb] at hq; exact forGo_ind xs P Q hget hstep hend m (i + 1) ρ' S' (by omega) (by omega) hq
      | bk ρ' S' => rw [qb] at hq; exact hq
      | rt d S' => rw [qb] at hq; exact hq
      | xc e' ρ' S' => rw [qb] at hq; exact hq
      | stuck => rw [qb] at hq; exact hq
/-- a loop that folds -/
theorem forGo_fold {α : Type} {it : MIt} {t : Tg} {b : MSt} (xs : List D) (f : α → D → α) (R : α → Rho) (T : α → Sto) (a0 : α) (hget : ∀ i a, i ≤ xs.length → it.get i (T a) = some xs[i]?)
    (hstep : ∀ a x, x ∈ xs → ∃ ρ1, tgM t x (R a) (T a) = some ρ1 ∧ b ρ1 (T a) = .nx (R (f a x)) (T (f a x))) {m : Nat} (hm : xs.length < m) : forGo it t b m 0 (R a0) (T a0) = .nx (R (xs.foldl f a0)) (T (xs.foldl f a0)) := by
  refine forGo_ind xs (fun i ρ S => ρ = R ((xs.take i).foldl f a0) ∧ S = T ((xs.take i).foldl f a0)) (fun r => r = .nx (R (xs.foldl f a0)) (T (xs.foldl f a0))) ?_ ?_ ?_ m 0 _ _ (by omega) (Nat.zero_le _) ⟨rfl, rfl⟩
  · rintro i ρ S hi ⟨rfl, rfl⟩
    exact hget i _ hi
  · rintro i x ρ S e ⟨rfl, rfl⟩
    obtain ⟨ρ1, e1, e2⟩ := hstep ((xs.take i).foldl f a0) x (List.mem_of_getElem? e)
    refine ⟨ρ1, e1, ?_⟩
    rw [e2]
    have e3 : xs.take (i + 1) = xs.take i ++ [x] := by
      rw [List.take_add_one, e]; rfl
    simp only [e3, List.foldl_append, List.foldl_cons, List.foldl_nil, and_self]
  · rintro ρ S ⟨rfl, rfl⟩
    rw [List.take_length]
/-! ### one loop, by an invariant -/
def stepQ (P : Rho → Sto → Prop) (Q : SR → Prop) : SR → Prop
  | .nx ρ S => P ρ S
  | .ct ρ S => P ρ S
  | .bk ρ S => Q (.nx ρ S)
  | r => Q r
theorem stepQ_nx {P : Rho → Sto → Prop} {Q : SR → Prop} {ρ : Rho} {S : Sto} : stepQ P Q (.nx ρ S) = P ρ S := rfl
theorem stepQ_ct {P : Rho → Sto → Prop} {Q : SR → Prop} {ρ : Rho} {S : Sto} : stepQ P Q (.ct ρ S) = P ρ S := rfl
theorem stepQ_bk {P : Rho → Sto → Prop} {Q : SR → Prop} {ρ : Rho} {S : Sto} : stepQ P Q (.bk ρ S) = Q (.nx ρ S) := rfl
theorem stepQ_rt {P : Rho → Sto → Prop} {Q : SR → Prop} {d : D} {S : Sto} : stepQ P Q (.rt d S) = Q (.rt d S) := rfl
theorem stepQ_xc {P : Rho → Sto → Prop} {Q : SR → Prop} {e : Ex} {ρ : Rho} {S : Sto} : stepQ P Q (.xc e ρ S) = Q (.xc e ρ S) := rfl
theorem forI {it : MIt} {t : Tg} {b : MSt} {m : Nat} {ρ0 : Rho} {S0 : Sto} {r : SR} (hr : forGo it t b m 0 ρ0 S0 = r) (xs : List D) (P : Nat → Rho → Sto → Prop) (Q : SR → Prop) (hm : xs.length < m) (h0 : P 0 ρ0 S0)
    (hget : ∀ i ρ S, i ≤ xs.length → P i ρ S → it.get i S = some xs[i]?)
    (hstep : ∀ i x ρ S, xs[i]? = some x → P i ρ S → ∃ ρ1, tgM t x ρ S = some ρ1 ∧ stepQ (P (i + 1)) Q (b ρ1 S))
    (hend : ∀ ρ S, P xs.length ρ S → Q (.nx ρ S)) : Q r := by
  rw [← hr]
  refine forGo_ind xs P Q hget ?_ hend m 0 ρ0 S0 (by omega) (Nat.zero_le _) h0
  intro i x ρ S e p
  obtain ⟨ρ1, e1, q⟩ := hstep i x ρ S e p
  refine ⟨ρ1, e1, ?_⟩
  cases hb : b ρ1 S <;> rw [hb] at q <;> exact q
/-- over a list that stays -/
theorem forL {l : Nat} {k : Nat} {t : Tg} {b : MSt} {m : Nat} {ρ0 : Rho} {S0 : Sto} {r : SR} (hr : forGo ⟨lstGet l, k⟩ t b m 0 ρ0 S0 = r) (xs : List D) (P : Nat → Rho → Sto → Prop) (Q : SR → Prop) (hm : xs.length < m) (h0 : P 0 ρ0 S0)
    (hget : ∀ i ρ S, P i ρ S → S[l]? = some (.lst xs))
    (hstep : ∀ i x ρ S, xs[i]? = some x → P i ρ S → ∃ ρ1, tgM t x ρ S = some ρ1 ∧ stepQ (P (i + 1)) Q (b ρ1 S))
    (hend : ∀ ρ S, P xs.length ρ S → Q (.nx ρ S)) : Q r :=
  forI hr xs P Q hm h0 (fun i ρ S _ p => by have e := hget i ρ S p; exact lstGet_ok e i) hstep hend
theorem rng_get {lo : Int} {n i : Nat} {S : Sto} : rngGet lo n i S = some ((List.range n).map fun k : Nat => D.int (lo + k))[i]? := by
  unfold rngGet
  by_cases h : i < n
  · simp [h]
  · simp [h]
/-- over a range -/
theorem forR {lo : Int} {n k : Nat} {t : Tg} {b : MSt} {m : Nat} {ρ0 : Rho} {S0 : Sto} {r : SR} (hr : forGo ⟨rngGet lo n, k⟩ t b m 0 ρ0 S0 = r) (P : Nat → Rho → Sto → Prop) (Q : SR → Prop) (hm : n < m) (h0 : P 0 ρ0 S0)
    (hstep : ∀ i ρ S, i < n → P i ρ S → ∃ ρ1, tgM t (.int (lo + i)) ρ S = some ρ1 ∧ stepQ (P (i + 1)) Q (b ρ1 S))
    (hend : ∀ ρ S, P n ρ S → Q (.nx ρ S)) : Q r := by
  have hlen : ((List.range n).map fun k : Nat => D.int (lo + k)).length = n := by simp
  refine forI hr ((List.range n).map fun k : Nat => D.int (lo + k)) P Q (by rw [hlen]; exact hm) h0 (fun i ρ S _ _ => @rng_get lo n i S) ?_ (by rw [hlen]; exact hend)
  intro i x ρ S e p
  have hi := (List.getElem?_eq_some_iff.mp e).1
  rw [hlen] at hi
  simp [hi] at e
  subst e
  exact hstep i ρ S hi p
theorem forT {xs : List D} {k : Nat} {t : Tg} {b : MSt} {m : Nat} {ρ0 : Rho} {S0 : Sto} {r : SR} (hr : forGo ⟨fixGet xs, k⟩ t b m 0 ρ0 S0 = r) (P : Nat → Rho → Sto → Prop) (Q : SR → Prop) (hm : xs.length < m) (h0 : P 0 ρ0 S0)
    (hstep : ∀ i x ρ S, xs[i]? = some x → P i ρ S → ∃ ρ1, tgM t x ρ S = some ρ1 ∧ stepQ (P (i + 1)) Q (b ρ1 S))
    (hend : ∀ ρ S, P xs.length ρ S → Q (.nx ρ S)) : Q r := forI hr xs P Q hm h0 (fun _ _ _ _ _ => rfl) hstep hend
/-! ### more steps -/
def kLen (o : Option O) (S : Sto) : Res D := match o with
  | some (.lst xs) => .ok (.int xs.length) S
  | some (.dct false kvs) => .ok (.int kvs.length) S
  | _ => .stuck
theorem r_len {l : Nat} {S : Sto} : cLen [.loc l] S = kLen S[l]? S := by
  (unfold cLen kLen; dsimp only) <;> (generalize S[l]? = o; rcases o with _ | _ | ⟨_ | _, _⟩ | _ <;> rfl)
theorem kLen_ok {ds : List D} {S : Sto} : kLen (some (.lst ds)) S = .ok (.int ds.length) S := rfl
theorem kLen_d {kvs : List (Key × D)} {S : Sto} : kLen (some (.dct false kvs)) S = .ok (.int kvs.length) S := rfl
theorem len_vl {ds : List D} {S : Sto} : cLen [.vl ds] S = .ok (.int ds.length) S := rfl
theorem len_cl {ds : List D} {S : Sto} : cLen [.cl ds] S = .ok (.int ds.length) S := rfl
theorem len_tup {ds : List D} {S : Sto} : cLen [.tup ds] S = .ok (.int ds.length) S := rfl
theorem r_sl4 {tr : Bool} {l : Nat} {lo hi : Option Int} {S : Sto} : slD' tr (.loc l) lo hi S = slO tr (kLst S[l]?) lo hi S := by rw [← r_lstO]; rfl
theorem sl_vl {tr : Bool} {ds : List D} {lo hi : Option Int} {S : Sto} : slD' tr (.vl ds) lo hi S = newL tr (cutD ds lo hi) S := rfl
theorem sl_cl {tr : Bool} {ds : List D} {lo hi : Option Int} {S : Sto} : slD' tr (.cl ds) lo hi S = newL tr (cutD ds lo hi) S := rfl
theorem slO_ok {tr : Bool} {ds : List D} {lo hi : Option Int} {S : Sto} : slO tr (some ds) lo hi S = newL tr (cutD ds lo hi) S := rfl
theorem itR1_ok {j : Int} {S : Sto} (h0 : 0 ≤ j) (h1 : j < 2 ^ 62) : itR1 [.int j] S = some ⟨rngGet 0 j.toNat, j.toNat + 1⟩ := by
  simp only [itR1]; rw [if_pos ⟨by omega, h1⟩]
theorem itR2_ok {i j : Int} {S : Sto} (h0 : 0 ≤ i ∧ i < 2 ^ 62) (h1 : 0 ≤ j ∧ j < 2 ^ 62) : itR2 [.int i, .int j] S = some ⟨rngGet i (j - i).toNat, (j - i).toNat + 1⟩ := by
  simp only [itR2]; rw [if_pos ⟨by omega, by omega, by omega, by omega⟩]
theorem cut_from {xs : List D} {a : Nat} : cutD xs (some (a : Int)) none = xs.drop a := by
  unfold cutD
  have e1 : HT.sIx xs.length 0 (some (a : Int)) = min a xs.length := HT.sIx_nat _ _ _
  have e2 : HT.sIx xs.length xs.length none = xs.length := rfl
  rw [e1, e2]
  by_cases h : a ≤ xs.length
  · rw [Nat.min_eq_left h, List.take_of_length_le]; simp
  · rw [Nat.min_eq_right (by omega), List.drop_length, List.drop_of_length_le (by omega)]; simp
theorem cut_to {xs : List D} {a : Nat} : cutD xs none (some (a : Int)) = xs.take a := by
  unfold cutD
  have e1 : HT.sIx xs.length xs.length (some (a : Int)) = min a xs.length := HT.sIx_nat _ _ _
  have e2 : HT.sIx xs.length 0 none = 0 := rfl
  rw [e1, e2]
  by_cases h : a ≤ xs.length
  · rw [Nat.min_eq_left h]; simp
  · rw [Nat.min_eq_right (by omega), List.take_of_length_le (show xs.length ≤ a by omega)]; simp
theorem cut_both {xs : List D} {a b : Nat} : cutD xs (some (a : Int)) (some (b : Int)) = (xs.drop a).take (b - a) := by
  unfold cutD
  have e1 : HT.sIx xs.length 0 (some (a : Int)) = min a xs.length := HT.sIx_nat _ _ _
  have e2 : HT.sIx xs.length xs.length (some (b : Int)) = min b xs.length := HT.sIx_nat _ _ _
  rw [e1, e2]
  by_cases h : a ≤ xs.length
  · rw [Nat.min_eq_left h]
    by_cases h2 : b ≤ xs.length
    · rw [Nat.min_eq_left h2]
    · rw [Nat.min_eq_right (show xs.length ≤ b by omega), List.take_of_length_le (by simp), List.take_of_length_le (by simp; omega)]
  · rw [Nat.min_eq_right (show xs.length ≤ a by omega), List.drop_length, List.drop_of_length_le (show xs.length ≤ a by omega)]; simp
/-! a store with a tail of known objects -/
theorem at_0 {S T : Sto} {a : O} : (S ++ a :: T)[S.length]? = some a := by simp
theorem at_1 {S T : Sto} {a b : O} : (S ++ a :: b :: T)[S.length + 1]? = some b := by
  rw [List.getElem?_append_right (by omega)]; simp
theorem at_2 {S T : Sto} {a b c : O} : (S ++ a :: b :: c :: T)[S.length + 2]? = some c := by
  rw [List.getElem?_append_right (by omega)]; simp
theorem at_3 {S T : Sto} {a b c d : O} : (S ++ a :: b :: c :: d :: T)[S.length + 3]? = some d := by
  rw [List.getElem?_append_right (by omega)]; simp
theorem set_0 {S T : Sto} {a a' : O} : (S ++ a :: T).set S.length a' = S ++ a' :: T := by simp
theorem set_1 {S T : Sto} {a b b' : O} : (S ++ a :: b :: T).set (S.length + 1) b' = S ++ a :: b' :: T := by
  simp [List.set_append]
theorem set_2 {S T : Sto} {a b c c' : O} : (S ++ a :: b :: c :: T).set (S.length + 2) c' = S ++ a :: b :: c' :: T := by
  simp [List.set_append]
theorem len_app1 {S : Sto} {a : O} : (S ++ [a]).length = S.length + 1 := by simp
theorem len_app2 {S : Sto} {a b : O} : (S ++ [a, b]).length = S.length + 2 := by simp
theorem app_app1 {S T : Sto} {a : O} : (S ++ [a]) ++ T = S ++ a :: T := by simp
/-! ### sizes of ints -/
theorem bits_lt {z : Int} {n : Nat} (h : Builtin.Int.intBits z ≤ n) : z.natAbs < 2 ^ n := by
  unfold Builtin.Int.intBits at h
  split at h
  · rename_i hz
    have : z = 0 := by simpa using hz
    subst this
    exact Nat.two_pow_pos n
  · exact Nat.lt_of_lt_of_le (Nat.lt_log2_self) (Nat.pow_le_pow_right (by decide) h)
theorem abs_lt_pow {z : Int} {n : Nat} (h0 : 0 ≤ z) (h : z < 2 ^ n) : z.natAbs < 2 ^ n := by
  have : ((z.natAbs : Nat) : Int) = z := by omega
  have h2 : ((z.natAbs : Nat) : Int) < ((2 ^ n : Nat) : Int) := by rw [this, Int.natCast_pow]; exact h
  exact Int.ofNat_lt.mp h2
theorem mul_lt_pow {i j : Int} {a b : Nat} (ha : i.natAbs < 2 ^ a) (hb : j.natAbs < 2 ^ b) : (i * j).natAbs < 2 ^ (a + b) := by
  rw [Int.natAbs_mul, Nat.pow_add]
  exact Nat.mul_lt_mul'' ha hb
theorem log2_lt {z : Int} {n : Nat} (h0 : 0 < z) (h : z.natAbs < 2 ^ n) (hn : n ≤ 9000) : z.natAbs.log2 < 9000 := by
  have : z.natAbs.log2 < n := (Nat.log2_lt (by omega)).mpr h
  omega
theorem add_lt_pow {i j : Int} {a : Nat} (ha : i.natAbs < 2 ^ a) (hb : j.natAbs < 2 ^ a) : (i + j).natAbs < 2 ^ (a + 1) := by
  rw [Nat.pow_succ]
  have := Int.natAbs_add_le i j
  omega
/-! ### numbers drawn, by their own digits or mixed -/
def mix (c : Int) : Int :=
  let o := (c + 7) * 69621 % 2147483629
  c * 1583458089 % 2147483647 + 2147483647 * (o * o * o * o * o * 982451653)
def drawNum (c : Int) (free : Bool) : Int := if free then (if c < 0 then -c else c) else mix c
def digits (n : Int) : List Int → List Int
  | [] => []
  | s :: ss => n % s :: digits (n / s) ss
theorem mix_nn (c : Int) : 0 ≤ mix c := by
  unfold mix
  have h1 : 0 ≤ (c + 7) * 69621 % 2147483629 := Int.emod_nonneg _ (by decide)
  have h2 : 0 ≤ c * 1583458089 % 2147483647 := Int.emod_nonneg _ (by decide)
  have h3 := Int.mul_nonneg (Int.mul_nonneg (Int.mul_nonneg (Int.mul_nonneg h1 h1) h1) h1) h1
  have h4 := Int.mul_nonneg h3 (show (0 : Int) ≤ 982451653 by decide)
  have h5 := Int.mul_nonneg (show (0 : Int) ≤ 2147483647 by decide) h4
  show 0 ≤ _ + _
  omega
theorem drawNum_nn (c : Int) (free : Bool) : 0 ≤ drawNum c free := by
  unfold drawNum
  cases free with
  | true => simp only [if_true]; split <;> omega
  | false => exact mix_nn c
/-! ### loops over what stays -/
def forX (t : Tg) (b : MSt) : List D → MSt
  | [] => fun ρ S => .nx ρ S
  | x :: xs => fun ρ S => match tgM t x ρ S with
    | none => .stuck
    | some ρ1 => match b ρ1 S with
      | .nx ρ' S' => forX t b xs ρ' S'
      | .ct ρ' S' => forX t b xs ρ' S'
      | .bk ρ' S' => .nx ρ' S'
      | r => r
theorem forGo_any {it : MIt} {t : Tg} {b : MSt} {xs : List D} (hg : ∀ i S, it.get i S = some xs[i]?) : ∀ (m i : Nat) (ρ : Rho) (S : Sto), i ≤ xs.length → xs.length < m + i → forGo it t b m i ρ S = forX t b (xs.drop i) ρ S
  | 0, i, ρ, S, h0, h => by omega
  | m + 1, i, ρ, S, h0, h => by
    unfold forGo
    rw [hg]
    cases e : xs[i]? with
    | none =>
      have : xs.length ≤ i := List.getElem?_eq_none_iff.mp e
      rw [List.drop_of_length_le this]
      rfl
    | some x =>
      obtain ⟨hi, e2⟩ := List.getElem?_eq_some_iff.mp e
      rw [List.drop_eq_getElem_cons hi, e2]
      unfold forX
      dsimp only
      cases tgM t x ρ S with
      | none => rfl
      | some ρ1 =>
        dsimp only
        cases b ρ1 S with
        | nx ρ' S' => exact forGo_any hg m (i + 1) ρ' S' (by omega) (by omega)
        | ct ρ' S' => exact forGo_any hg m (i + 1) ρ' S' (by omega) (by omega)
        | _ => rfl
/-- what a range tells -/
def rngL (lo : Int) (n : Nat) : List D := (List.range n).map fun k : Nat => D.int (lo + k)
theorem rngL_len {lo : Int} {n : Nat} : (rngL lo n).length = n := by simp [rngL]
def enuL (xs : List D) : List D := xs.mapIdx fun i d => D.tup [.int (i : Nat), d]
theorem for_fix {t : Tg} {b : MSt} {xs : List D} {k : Nat} {ρ : Rho} {S : Sto} (h : xs.length < k) : kFor (.ok ⟨fixGet xs, k⟩ S) t b ρ = forX t b xs ρ S := by
  rw [kFor_ok]
  exact forGo_any (fun _ _ => rfl) _ 0 ρ S (Nat.zero_le _) h
theorem for_rng {t : Tg} {b : MSt} {lo : Int} {n k : Nat} {ρ : Rho} {S : Sto} (h : n < k) : kFor (.ok ⟨rngGet lo n, k⟩ S) t b ρ = forX t b (rngL lo n) ρ S := by
  rw [kFor_ok]
  exact forGo_any (xs := rngL lo n) (fun i S => @rng_get lo n i S) _ 0 ρ S (Nat.zero_le _) (by rw [rngL_len]; exact h)
theorem for_enu {t : Tg} {b : MSt} {xs : List D} {k : Nat} {ρ : Rho} {S : Sto} (h : xs.length < k) : kFor (.ok ⟨enFix xs, k⟩ S) t b ρ = forX t b (enuL xs) ρ S := by
  rw [kFor_ok]
  exact forGo_any (xs := enuL xs) (fun i _ => by simp [enFix, enuL, List.getElem?_mapIdx]) _ 0 ρ S (Nat.zero_le _) (show (enuL xs).length < k by simpa [enuL] using h)
theorem forX_nil {t : Tg} {b : MSt} {ρ : Rho} {S : Sto} : forX t b [] ρ S = .nx ρ S := rfl
def kFY (r : SR) (t : Tg) (b : MSt) (xs : List D) : SR := match r with
  | .nx ρ S => forX t b xs ρ S
  | .ct ρ S => forX t b xs ρ S
  | .bk ρ S => .nx ρ S
  | r => r
def kFX (r : SR) (t : Tg) (b : MSt) (xs : List D) : SR := match r with
  | .nx ρ S => kFY (b ρ S) t b xs
  | _ => .stuck
theorem forX_cons {t : Tg} {b : MSt} {x : D} {xs : List D} {ρ : Rho} {S : Sto} : forX t b (x :: xs) ρ S = kFX (sTgO (tgM t x ρ S) S) t b xs := by
  unfold forX
  cases tgM t x ρ S with
  | none => rfl
  | some ρ1 =>
    rw [sTgO_some]
    (dsimp only [kFX, kFY]) <;> (cases b ρ1 S <;> rfl)
theorem kFX_nx {t : Tg} {b : MSt} {xs : List D} {ρ : Rho} {S : Sto} : kFX (.nx ρ S) t b xs = kFY (b ρ S) t b xs := rfl
theorem kFY_nx {t : Tg} {b : MSt} {xs : List D} {ρ : Rho} {S : Sto} : kFY (.nx ρ S) t b xs = forX t b xs ρ S := rfl
theorem kFY_ct {t : Tg} {b : MSt} {xs : List D} {ρ : Rho} {S : Sto} : kFY (.ct ρ S) t b xs = forX t b xs ρ S := rfl
theorem kFY_bk {t : Tg} {b : MSt} {xs : List D} {ρ : Rho} {S : Sto} : kFY (.bk ρ S) t b xs = .nx ρ S := rfl
theorem kFY_rt {t : Tg} {b : MSt} {xs : List D} {d : D} {S : Sto} : kFY (.rt d S) t b xs = .rt d S := rfl
theorem kFY_xc {t : Tg} {b : MSt} {xs : List D} {e : Ex} {ρ : Rho} {S : Sto} : kFY (.xc e ρ S) t b xs = .xc e ρ S := rfl
theorem forX_app {t : Tg} {b : MSt} : ∀ {xs ys : List D} {ρ : Rho} {S : Sto}, forX t b (xs ++ ys) ρ S = (match forX t b xs ρ S with
    | .nx ρ' S' => forX t b ys ρ' S'
    | r => r) ∨ ∃ ρ' S', forX t b (xs ++ ys) ρ S = .nx ρ' S'
  | [], ys, ρ, S => .inl rfl
  | x :: xs, ys, ρ, S => by
    rw [List.cons_append, forX_cons, forX_cons]
    cases sTgO (tgM t x ρ S) S with
    | nx ρ1 S1 =>
      rw [kFX_nx, kFX_nx]
      cases b ρ1 S1 with
      | nx ρ2 S2 => exact forX_app
      | ct ρ2 S2 => exact forX_app
      | bk ρ2 S2 => exact .inr ⟨ρ2, S2, rfl⟩
      | _ => exact .inl rfl
    | _ => exact .inl rfl
/-- by an invariant over what is left -/
theorem forXI {t : Tg} {b : MSt} {ρ0 : Rho} {S0 : Sto} {r : SR} {xs : List D} (hr : forX t b xs ρ0 S0 = r) (P : Nat → Rho → Sto → Prop) (Q : SR → Prop) (h0 : P 0 ρ0 S0)
    (hstep : ∀ i x ρ S, xs[i]? = some x → P i ρ S → ∃ ρ1, tgM t x ρ S = some ρ1 ∧ stepQ (P (i + 1)) Q (b ρ1 S))
    (hend : ∀ ρ S, P xs.length ρ S → Q (.nx ρ S)) : Q r := by
  have e : forGo ⟨fixGet xs, xs.length + 1⟩ t b (xs.length + 1) 0 ρ0 S0 = r := by
    rw [forGo_any (xs := xs) (fun _ _ => rfl) _ 0 ρ0 S0 (Nat.zero_le _) (by omega)]
    exact hr
  exact forI e xs P Q (by omega) h0 (fun _ _ _ _ _ => rfl) hstep hend
end MP

set_option Elab.async false
set_option linter.all false
set_option maxRecDepth 100000
set_option maxHeartbeats 4000000
namespace MP
open PySem L2
/-! ### equality of data -/
theorem optAll_map {α β : Type} {γ : Type} {f : α → Option β} {h : γ → α} {g : γ → β} : ∀ {xs : List γ}, (∀ x ∈ xs, f (h x) = some (g x)) → optAll f (xs.map h) = some (xs.map g)
  | [], _ => rfl
  | x :: xs, q => by
    have e1 := q x (List.mem_cons_self)
    have e2 := optAll_map (f := f) (h := h) (g := g) (xs := xs) fun y hy => q y (List.mem_cons_of_mem _ hy)
    simp only [List.map_cons, optAll, e1, e2]
theorem optAll_cons {α β : Type} {f : α → Option β} {x : α} {xs : List α} {y : β} {ys : List β} (h : f x = some y) (h2 : optAll f xs = some ys) : optAll f (x :: xs) = some (y :: ys) := by
  simp only [optAll, h, h2]
theorem optAll_mem {α β : Type} {f : α → Option β} : ∀ {xs : List α} {ys : List β}, optAll f xs = some ys → ∀ y ∈ ys, ∃ x ∈ xs, f x = some y
  | [], _, h, y, hy => by cases h; cases hy
  | x :: xs, ys, h, y, hy => by
    unfold optAll at h
    split at h
    · rename_i z zs e1 e2
      cases h
      rcases List.mem_cons.mp hy with rfl | hy
      · exact ⟨x, List.mem_cons_self, e1⟩
      · obtain ⟨w, hw, e⟩ := optAll_mem e2 y hy
        exact ⟨w, List.mem_cons_of_mem _ hw, e⟩
    · cases h
theorem depthAll_le {n : Nat} : ∀ {ps : List PyData}, (∀ p ∈ ps, p.depth ≤ n) → PyData.depthAll ps ≤ n
  | [], _ => by simp [PyData.depthAll]
  | p :: ps, h => by
    have h1 := h p List.mem_cons_self
    have h2 := depthAll_le (n := n) (ps := ps) fun q hq => h q (List.mem_cons_of_mem _ hq)
    simp only [PyData.depthAll]
    omega
theorem pd_depth {S : Sto} : ∀ {n : Nat} {d : D} {p : PyData}, pd S n d = some p → p.depth ≤ n := by
  intro n
  induction n with
  | zero => intro d p h; cases d <;> simp [pd] at h <;> subst h <;> simp [PyData.depth]
  | succ n ih =>
    intro d p h
    cases d with
    | tup xs =>
      simp only [pd] at h
      obtain ⟨ps, e, rfl⟩ := Option.map_eq_some_iff.mp h
      simp only [PyData.depth]
      have := depthAll_le (n := n) (ps := ps) fun q hq => by
        obtain ⟨x, _, ex⟩ := optAll_mem e q hq
        exact ih ex
      omega
    | loc l =>
      simp only [pd] at h
      split at h
      · obtain ⟨ps, e, rfl⟩ := Option.map_eq_some_iff.mp h
        simp only [PyData.depth]
        have := depthAll_le (n := n) (ps := ps) fun q hq => by
          obtain ⟨x, _, ex⟩ := optAll_mem e q hq
          exact ih ex
        omega
      · cases h
    | vl xs =>
      simp only [pd] at h
      obtain ⟨ps, e, rfl⟩ := Option.map_eq_some_iff.mp h
      simp only [PyData.depth]
      have := depthAll_le (n := n) (ps := ps) fun q hq => by
        obtain ⟨x, _, ex⟩ := optAll_mem e q hq
        exact ih ex
      omega
    | cl xs =>
      simp only [pd] at h
      obtain ⟨ps, e, rfl⟩ := Option.map_eq_some_iff.mp h
      simp only [PyData.depth]
      have := depthAll_le (n := n) (ps := ps) fun q hq => by
        obtain ⟨x, _, ex⟩ := optAll_mem e q hq
        exact ih ex
      omega
    | vd ks xs => simp [pd] at h
    | vo c fs xs => simp [pd] at h
    | _ => simp [pd] at h; subst h; simp [PyData.depth]
theorem shaped_pd {S : Sto} {d : D} {p : PyData} (h : pd S 8 d = some p) (hc : p.canLay0 = true) : SeqAt.shaped p = true := by
  unfold SeqAt.shaped
  rw [hc, Bool.true_and]
  exact decide_eq_true (Nat.le_trans (pd_depth h) (by decide))
mutual
theorem eqv_refl : ∀ {p : PyData}, p.canLay0 = true → PyData.eqv p p = true
  | .none, _ => rfl
  | .bool b, _ => by simp [PyData.eqv]
  | .int i, _ => by simp [PyData.eqv]
  | .str x, _ => by simp [PyData.eqv]
  | .list xs, h => by simp only [PyData.eqv]; exact eqvAll_refl (by simpa [PyData.canLay0] using h)
  | .tuple xs, h => by simp only [PyData.eqv]; exact eqvAll_refl (by simpa [PyData.canLay0] using h)
  | .dict _, h => by simp [PyData.canLay0] at h
theorem eqvAll_refl : ∀ {ps : List PyData}, PyData.canLayAll0 ps = true → PyData.eqvAll ps ps = true
  | [], _ => rfl
  | p :: ps, h => by
    simp only [PyData.canLayAll0, Bool.and_eq_true] at h
    simp only [PyData.eqvAll, eqv_refl h.1, eqvAll_refl h.2, Bool.and_self]
end
mutual
/-- no truths inside: then == is being the same -/
def nb : PyData → Bool
  | .bool _ => false
  | .list xs => nbAll xs
  | .tuple xs => nbAll xs
  | _ => true
def nbAll : List PyData → Bool
  | [] => true
  | x :: xs => nb x && nbAll xs
end
mutual
theorem eqv_eq : ∀ {p q : PyData}, nb p = true → nb q = true → PyData.eqv p q = true → p = q := by
  intro p q h1 h2 h
  cases p <;> cases q <;> first
    | rfl
    | (exfalso; simp [nb] at h1; done)
    | (exfalso; simp [nb] at h2; done)
    | (exfalso; simp [PyData.eqv] at h; done)
    | (simp [PyData.eqv] at h; rw [h]; done)
    | (simp only [nb] at h1 h2; simp only [PyData.eqv] at h; rw [eqvAll_eq h1 h2 h])
theorem eqvAll_eq : ∀ {ps qs : List PyData}, nbAll ps = true → nbAll qs = true → PyData.eqvAll ps qs = true → ps = qs
  | [], [], _, _, _ => rfl
  | [], _ :: _, _, _, h => by simp [PyData.eqvAll] at h
  | _ :: _, [], _, _, h => by simp [PyData.eqvAll] at h
  | p :: ps, q :: qs, h1, h2, h => by
    simp only [nbAll, Bool.and_eq_true] at h1 h2
    simp only [PyData.eqvAll, Bool.and_eq_true] at h
    rw [eqv_eq h1.1 h2.1 h.1, eqvAll_eq h1.2 h2.2 h.2]
end
theorem eqD_pd {S : Sto} {x y : D} {p q : PyData} (hx : pd S 8 x = some p) (hy : pd S 8 y = some q) (h1 : p.canLay0 = true) (h2 : q.canLay0 = true) (b : Bool) (hb : PyData.eqv p q = b) (hs : x.scalar = false ∨ y.scalar = false) : eqD S x y = some b := by
  have deep : deepEq S x y = some b := by
    unfold deepEq
    rw [hx, hy]
    dsimp only
    rw [if_pos ⟨shaped_pd hx h1, shaped_pd hy h2⟩, hb]
  cases x <;> cases y <;> first | exact deep | (exfalso; simp [D.scalar] at hs; done)
theorem eqD_same {S : Sto} {x y : D} {p : PyData} (hx : pd S 8 x = some p) (hy : pd S 8 y = some p) (h1 : p.canLay0 = true) : eqD S x y = some true := by
  have deep : x.scalar = false ∨ y.scalar = false → eqD S x y = some true := eqD_pd hx hy h1 h1 true (eqv_refl h1)
  cases x <;> cases y <;> first
    | exact deep (.inl rfl)
    | exact deep (.inr rfl)
    | rfl
    | (simp [pd] at hx hy; subst hx; first | (cases hy; simp [eqD]; done) | (exfalso; cases hy; done) | (simp at hy; done) | (simp [eqD, hy]; done))
theorem eqR_same {S : Sto} {x y : D} {p : PyData} (hx : pd S 8 x = some p) (hy : pd S 8 y = some p) (h1 : p.canLay0 = true) : eqR x y S = .ok (.bl true) S := by
  unfold eqR; rw [eqD_same hx hy h1]
theorem neR_same {S : Sto} {x y : D} {p : PyData} (hx : pd S 8 x = some p) (hy : pd S 8 y = some p) (h1 : p.canLay0 = true) : neR x y S = .ok (.bl false) S := by
  unfold neR; rw [eqD_same hx hy h1]; rfl
theorem pd_loc {S : Sto} {n l : Nat} {xs : List D} {ps : List PyData} (h : S[l]? = some (.lst xs)) (hx : optAll (pd S n) xs = some ps) : pd S (n + 1) (.loc l) = some (.list ps) := by
  simp only [pd, h, hx]; rfl
theorem pd_tup {S : Sto} {n : Nat} {xs : List D} {ps : List PyData} (hx : optAll (pd S n) xs = some ps) : pd S (n + 1) (.tup xs) = some (.tuple ps) := by
  simp only [pd, hx]; rfl
theorem pd_int {S : Sto} {n : Nat} {i : Int} : pd S n (.int i) = some (.int i) := by cases n <;> rfl
theorem pd_str {S : Sto} {n : Nat} {i : Str} : pd S n (.str i) = some (.str i) := by cases n <;> rfl
theorem pd_bl {S : Sto} {n : Nat} {i : Bool} : pd S n (.bl i) = some (.bool i) := by cases n <;> rfl
theorem pd_non {S : Sto} {n : Nat} : pd S n .non = some .none := by cases n <;> rfl
theorem pd_ints {S : Sto} {n : Nat} {xs : List Int} : optAll (pd S n) (xs.map .int) = some (xs.map PyData.int) := optAll_map fun _ _ => pd_int
theorem lay_ints : ∀ {xs : List Int}, PyData.canLayAll0 (xs.map PyData.int) = true
  | [] => rfl
  | x :: xs => by simp only [List.map_cons, PyData.canLayAll0, PyData.canLay0, lay_ints, Bool.and_self]
theorem nb_ints : ∀ {xs : List Int}, nbAll (xs.map PyData.int) = true
  | [] => rfl
  | x :: xs => by simp only [List.map_cons, nbAll, nb, nb_ints, Bool.and_self]
theorem eqv_ints {xs ys : List Int} : PyData.eqv (.list (xs.map PyData.int)) (.list (ys.map PyData.int)) = decide (xs = ys) := by
  by_cases h : xs = ys
  · subst h
    rw [decide_eq_true rfl]
    exact eqv_refl (by simp only [PyData.canLay0]; exact lay_ints)
  · rw [decide_eq_false h]
    cases e : PyData.eqv (.list (xs.map PyData.int)) (.list (ys.map PyData.int)) with
    | false => rfl
    | true =>
      have q := eqv_eq (by simp only [nb]; exact nb_ints) (by simp only [nb]; exact nb_ints) e
      refine absurd ?_ h
      injection q with q
      exact List.map_inj_right (fun a b z => PyData.int.inj z) |>.mp q
theorem eqD_ints {S : Sto} {a b : Nat} {xs ys : List Int} (h1 : S[a]? = some (.lst (xs.map .int))) (h2 : S[b]? = some (.lst (ys.map .int))) : eqD S (.loc a) (.loc b) = some (decide (xs = ys)) :=
  eqD_pd (pd_loc h1 pd_ints) (pd_loc h2 pd_ints) (by simp only [PyData.canLay0]; exact lay_ints) (by simp only [PyData.canLay0]; exact lay_ints) _ eqv_ints (.inl rfl)
theorem eqR_ints {S : Sto} {a b : Nat} {xs ys : List Int} (h1 : S[a]? = some (.lst (xs.map .int))) (h2 : S[b]? = some (.lst (ys.map .int))) : eqR (.loc a) (.loc b) S = .ok (.bl (decide (xs = ys))) S := by
  unfold eqR; rw [eqD_ints h1 h2]
theorem neR_ints {S : Sto} {a b : Nat} {xs ys : List Int} (h1 : S[a]? = some (.lst (xs.map .int))) (h2 : S[b]? = some (.lst (ys.map .int))) : neR (.loc a) (.loc b) S = .ok (.bl (!decide (xs = ys))) S := by
  unfold neR; rw [eqD_ints h1 h2]
theorem eq_bl (a b : Bool) (S : Sto) : eqR (.bl a) (.bl b) S = .ok (.bl (decide (a = b))) S := rfl
theorem ne_bl (a b : Bool) (S : Sto) : neR (.bl a) (.bl b) S = .ok (.bl (!decide (a = b))) S := rfl
/-! ### index -1 and the like -/
theorem atI_pred {xs : List D} {k : Nat} (hk : k < xs.length) : ∃ x ∈ xs, atI xs ((k : Int) - 1) = some x := by
  cases k with
  | zero =>
    refine ⟨xs[xs.length - 1]'(by omega), List.getElem_mem _, ?_⟩
    unfold atI ixN
    rw [if_neg (by omega), if_pos (by omega)]
    simp only [Option.bind_some]
    rw [show (((0 : Nat) : Int) - 1 + (xs.length : Int)).toNat = xs.length - 1 by omega]
    exact List.getElem?_eq_getElem (by omega)
  | succ k =>
    refine ⟨xs[k]'(by omega), List.getElem_mem _, ?_⟩
    rw [show (((k + 1 : Nat) : Int) - 1) = (k : Int) by omega]
    exact atI_nat (List.getElem?_eq_getElem (by omega))
/-! ### bits of quotients -/
theorem div_lt_pow {c d : Int} {n : Nat} (hd : 0 < d) (hc : c.natAbs < 2 ^ n) : (c / d).natAbs < 2 ^ n := by
  have h1 : (c / d).natAbs ≤ c.natAbs := by
    by_cases h : 0 ≤ c
    · have h2 : c / d ≤ c := Int.ediv_le_self _ h
      have h3 : 0 ≤ c / d := Int.ediv_nonneg h (by omega)
      omega
    · have h2 : c ≤ c / d := by
        rw [Int.le_ediv_iff_mul_le hd]
        have := Int.mul_le_mul_of_nonpos_left (show c ≤ 0 by omega) (show (1 : Int) ≤ d by omega)
        omega
      have h3 : c / d < 0 := Int.ediv_neg_of_neg_of_pos (by omega) hd
      omega
  omega
theorem mod_lt_pow {c d : Int} {n : Nat} (hd : 0 < d) (hn : d.natAbs ≤ 2 ^ n) : (c % d).natAbs < 2 ^ n := by
  have h1 := Int.emod_nonneg c (show d ≠ 0 by omega)
  have h2 := Int.emod_lt_of_pos c hd
  omega
/-! ### stores with a known tail -/
theorem at_z {S T : Sto} : (S ++ T)[S.length]? = T[0]? := by
  rw [List.getElem?_append_right (Nat.le_refl _), Nat.sub_self]
theorem at_k {S T : Sto} {k : Nat} : (S ++ T)[S.length + k]? = T[k]? := by
  rw [List.getElem?_append_right (by omega), Nat.add_sub_cancel_left]
theorem set_z {S T : Sto} {o : O} : (S ++ T).set S.length o = S ++ T.set 0 o := by
  simp [List.set_append]
theorem set_k {S T : Sto} {k : Nat} {o : O} : (S ++ T).set (S.length + k) o = S ++ T.set k o := by
  simp [List.set_append]
theorem add_vv {tr : Bool} {xs ys : List D} {S : Sto} : addD tr (.vl xs) (.vl ys) S = catL tr (some xs) (some ys) S := rfl
theorem add_vl {tr : Bool} {xs : List D} {l : Nat} {S : Sto} : addD tr (.vl xs) (.loc l) S = catL tr (some xs) (kLst S[l]?) S := by rw [← r_lstO]; rfl
theorem add_lv {tr : Bool} {ys : List D} {l : Nat} {S : Sto} : addD tr (.loc l) (.vl ys) S = catL tr (kLst S[l]?) (some ys) S := by rw [← r_lstO]; rfl
theorem add_ll {tr : Bool} {l m : Nat} {S : Sto} : addD tr (.loc l) (.loc m) S = catL tr (kLst S[l]?) (kLst S[m]?) S := by rw [← r_lstO, ← r_lstO]; rfl
theorem add_vc {tr : Bool} {xs ys : List D} {S : Sto} : addD tr (.vl xs) (.cl ys) S = catL tr (some xs) (some ys) S := rfl
theorem add_cv {tr : Bool} {xs ys : List D} {S : Sto} : addD tr (.cl xs) (.vl ys) S = catL tr (some xs) (some ys) S := rfl
theorem add_cl {tr : Bool} {xs : List D} {l : Nat} {S : Sto} : addD tr (.cl xs) (.loc l) S = catL tr (some xs) (kLst S[l]?) S := by rw [← r_lstO]; rfl
theorem add_lc {tr : Bool} {ys : List D} {l : Nat} {S : Sto} : addD tr (.loc l) (.cl ys) S = catL tr (kLst S[l]?) (some ys) S := by rw [← r_lstO]; rfl
theorem catL_ok {tr : Bool} {xs ys : List D} {S : Sto} (h : xs.length + ys.length ≤ sizeLine) : catL tr (some xs) (some ys) S = newL tr (xs ++ ys) S := if_pos h
/-! ### stores that only grow ahead of a place -/
theorem pfx_get {S S' : Sto} {i : Nat} {o : O} (h : S <+: S') (e : S[i]? = some o) : S'[i]? = some o := by
  obtain ⟨T, rfl⟩ := h
  exact get_app e
theorem pfx_app {S S' T : Sto} (h : S <+: S') : S <+: S' ++ T := by
  obtain ⟨U, rfl⟩ := h
  exact ⟨U ++ T, by rw [List.append_assoc]⟩
theorem pfx_set {S S' : Sto} {l : Nat} {o : O} (h : S <+: S') (hl : S.length ≤ l) : S <+: S'.set l o := by
  obtain ⟨U, rfl⟩ := h
  obtain ⟨k, rfl⟩ := Nat.exists_eq_add_of_le hl
  rw [set_k]
  exact ⟨_, rfl⟩
theorem pfx_len {S S' : Sto} (h : S <+: S') : S.length ≤ S'.length := h.length_le
theorem get_lt {S : Sto} {i : Nat} {o : O} (h : S[i]? = some o) : i < S.length := (List.getElem?_eq_some_iff.mp h).1
theorem set_get_self {S : Sto} {i : Nat} {o o' : O} (h : S[i]? = some o) : (S.set i o')[i]? = some o' := by
  rw [List.getElem?_set_self (get_lt h)]
theorem set_get_ne {S : Sto} {i j : Nat} {o o' : O} (h : S[j]? = some o) (hn : i ≠ j) : (S.set i o')[j]? = some o := by
  rw [List.getElem?_set_ne hn]; exact h
/-! ### n times a list -/
def kRD (tr : Bool) (r : Res (List D)) (mb : MEx) (ρ : Rho) : Res D := r.bind fun ds S1 => if ds.length ≤ sizeLine then (mb ρ S1).bind fun y S2 => repL tr ds y S2 else .stuck
def kRD2 (tr : Bool) (ds : List D) (r : Res D) : Res D := r.bind fun y S2 => repL tr ds y S2
theorem r_repD {tr : Bool} {ms : MAr} {mb : MEx} {ρ : Rho} {S : Sto} : mRepD tr ms mb ρ S = kRD tr (ms ρ S) mb ρ := rfl
theorem kRD_ok {tr : Bool} {ds : List D} {mb : MEx} {ρ : Rho} {S : Sto} (h : ds.length ≤ 100000) : kRD tr (.ok ds S) mb ρ = kRD2 tr ds (mb ρ S) := by
  unfold kRD kRD2
  rw [Res.bind_ok, if_pos (by rw [le_line h]; trivial)]
theorem kRD2_ok {tr : Bool} {ds : List D} {d : D} {S : Sto} : kRD2 tr ds (.ok d S) = repL tr ds d S := rfl
def reps (n : Nat) (x : D) : List D := List.replicate n x
theorem reps_len {n : Nat} {x : D} : (reps n x).length = n := List.length_replicate
theorem rep_flat {n : Nat} {x : D} : (List.replicate n [x]).flatten = reps n x := by
  unfold reps
  induction n with
  | zero => rfl
  | succ n ih => rw [List.replicate_succ, List.flatten_cons, ih, List.replicate_succ]; rfl
theorem pure_reps {n : Nat} {x : D} (h : x.pureB = true) : pureAll (reps n x) = true := pureAll_mem.mpr fun y hy => by rw [List.eq_of_mem_replicate hy]; exact h
theorem repL_nat {tr : Bool} {x : D} {n : Nat} {S : Sto} (h : n ≤ 100000) : repL tr [x] (.int (n : Int)) S = newL tr (reps n x) S := by
  unfold repL
  dsimp only
  rw [if_pos ⟨by omega, by omega, by rw [Int.toNat_natCast, List.length_singleton, Nat.one_mul, le_line h]; trivial⟩, Int.toNat_natCast, rep_flat]
/-! ### enumerate -/
def kEn (a : Option O) (l : Nat) : Option MIt := match a with
  | some (.lst xs) => some ⟨enGet l, xs.length + 1⟩
  | _ => none
theorem r_en {l : Nat} {S : Sto} : itEn [.loc l] S = kEn S[l]? l := by
  simp only [itEn, kEn] <;> (generalize S[l]? = o; rcases o with _ | _ | _ | _ <;> rfl)
theorem kEn_ok {xs : List D} {l : Nat} : kEn (some (.lst xs)) l = some ⟨enGet l, xs.length + 1⟩ := rfl
theorem enGet_ok {S : Sto} {l : Nat} {xs : List D} (h : S[l]? = some (.lst xs)) (i : Nat) : enGet l i S = some (xs[i]?.map fun d => .tup [.int (i : Nat), d]) := by
  simp only [enGet, h]
theorem forE {l : Nat} {k : Nat} {t : Tg} {b : MSt} {m : Nat} {ρ0 : Rho} {S0 : Sto} {r : SR} (hr : forGo ⟨enGet l, k⟩ t b m 0 ρ0 S0 = r) (xs : List D) (P : Nat → Rho → Sto → Prop) (Q : SR → Prop) (hm : xs.length < m) (h0 : P 0 ρ0 S0)
    (hget : ∀ i ρ S, P i ρ S → S[l]? = some (.lst xs))
    (hstep : ∀ i x ρ S, xs[i]? = some x → P i ρ S → ∃ ρ1, tgM t (.tup [.int (i : Nat), x]) ρ S = some ρ1 ∧ stepQ (P (i + 1)) Q (b ρ1 S))
    (hend : ∀ ρ S, P xs.length ρ S → Q (.nx ρ S)) : Q r := by
  have hlen : (xs.mapIdx fun i d => D.tup [.int (i : Nat), d]).length = xs.length := List.length_mapIdx
  refine forI hr (xs.mapIdx fun i d => D.tup [.int (i : Nat), d]) P Q (by rw [hlen]; exact hm) h0 ?_ ?_ (by rw [hlen]; exact hend)
  · intro i ρ S _ p
    have e := hget i ρ S p
    show enGet l i S = _
    rw [enGet_ok e, List.getElem?_mapIdx]
  · intro i x ρ S e p
    rw [List.getElem?_mapIdx] at e
    obtain ⟨y, ey, rfl⟩ := Option.map_eq_some_iff.mp e
    exact hstep i y ρ S ey p
/-! ### what a call leaves as it was -/
def Fr (W : List Nat) (S S' : Sto) : Prop := S.length ≤ S'.length ∧ ∀ i o, i ∉ W → S[i]? = some o → S'[i]? = some o
theorem Fr.refl {W : List Nat} {S : Sto} : Fr W S S := ⟨Nat.le_refl _, fun _ _ _ h => h⟩
theorem Fr.trans {W : List Nat} {S S' S'' : Sto} (a : Fr W S S') (b : Fr W S' S'') : Fr W S S'' := ⟨Nat.le_trans a.1 b.1, fun i o hi h => b.2 i o hi (a.2 i o hi h)⟩
theorem Fr.mono {W W' : List Nat} {S S' : Sto} (a : Fr W S S') (h : ∀ i, i ∈ W → i ∈ W') : Fr W' S S' := ⟨a.1, fun i o hi e => a.2 i o (fun z => hi (h i z)) e⟩
theorem Fr.pfx {W : List Nat} {S S' : Sto} (h : S <+: S') : Fr W S S' := ⟨pfx_len h, fun i o _ e => pfx_get h e⟩
theorem Fr.app {W : List Nat} {S T : Sto} : Fr W S (S ++ T) := .pfx ⟨_, rfl⟩
theorem Fr.set {W : List Nat} {S : Sto} {l : Nat} {o : O} (hl : l ∈ W) : Fr W S (S.set l o) :=
  ⟨by rw [List.length_set]; exact Nat.le_refl _, fun i o hi e => set_get_ne e (fun z => hi (z ▸ hl))⟩
/-! ### a comprehension by an invariant -/
def lcQ (P : Sto → Prop) (L : Nat) (tt : MTs) (me : MEx) (ρ1 : Rho) (S : Sto) : Prop :=
  ∃ b S2, tt ρ1 S = .ok b S2 ∧ (b = false → P S2) ∧ (b = true → ∃ y S3 acc, me ρ1 S2 = .ok y S3 ∧ S3[L]? = some (.lst acc) ∧ acc.length < sizeLine ∧ P (S3.set L (.lst (acc ++ [y]))))
theorem lcGo_ind {it : MIt} {t : Tg} {tt : MTs} {me : MEx} {ρ : Rho} {L : Nat} (xs : List D) (P : Nat → Sto → Prop) (Q : Res D → Prop)
    (hget : ∀ i S, i ≤ xs.length → P i S → it.get i S = some xs[i]?)
    (hstep : ∀ i x S, xs[i]? = some x → P i S → ∃ ρ1, tgM t x ρ S = some ρ1 ∧ lcQ (P (i + 1)) L tt me ρ1 S)
    (hend : ∀ S, P xs.length S → Q (.ok (.loc L) S)) : ∀ m i S, xs.length < m + i → i ≤ xs.length → P i S → Q (lcGo it t tt me ρ L m i S)
  | 0, i, S, h1, h2, _ => by omega
  | m + 1, i, S, h1, h2, p => by
    unfold lcGo
    rw [hget i S h2 p]
    cases e : xs[i]? with
    | none =>
      have : xs.length ≤ i := List.getElem?_eq_none_iff.mp e
      have h3 : i = xs.length := by omega
      subst h3
      exact hend S p
    | some x =>
      obtain ⟨ρ1, e1, b, S2, e2, hf, ht⟩ := hstep i x S e p
      have hi := (List.getElem?_eq_some_iff.mp e).1
      simp only [e1, e2, noX_ok, Res.bind_ok]
      cases b with
      | false => exact lcGo_ind xs P Q hget hstep hend m (i + 1) S2 (by omega) (by omega) (hf rfl)
      | true =>
        obtain ⟨y, S3, acc, e3, e4, e5, p'⟩ := ht rfl
        simp only [e3, noX_ok, Res.bind_ok, if_true, e4, e5]
        exact lcGo_ind xs P Q hget hstep hend m (i + 1) _ (by omega) (by omega) p'
theorem lcI {it : MIt} {t : Tg} {tt : MTs} {me : MEx} {ρ : Rho} {L m : Nat} {S0 : Sto} {r : Res D} (hr : lcGo it t tt me ρ L m 0 S0 = r) (xs : List D) (P : Nat → Sto → Prop) (Q : Res D → Prop) (hm : xs.length < m) (h0 : P 0 S0)
    (hget : ∀ i S, i ≤ xs.length → P i S → it.get i S = some xs[i]?)
    (hstep : ∀ i x S, xs[i]? = some x → P i S → ∃ ρ1, tgM t x ρ S = some ρ1 ∧ lcQ (P (i + 1)) L tt me ρ1 S)
    (hend : ∀ S, P xs.length S → Q (.ok (.loc L) S)) : Q r := by
  rw [← hr]
  exact lcGo_ind xs P Q hget hstep hend m 0 S0 (by omega) (Nat.zero_le _) h0
/-- a comprehension that only reckons -/
theorem lc_pure {it : MIt} {t : Tg} {tt : MTs} {me : MEx} {ρ : Rho} {m : Nat} {S0 : Sto} (xs : List D) (b : D → Bool) (f : D → D)
    (hget : ∀ i acc, it.get i (S0 ++ [.lst acc]) = some xs[i]?)
    (hstep : ∀ x, x ∈ xs → ∀ acc, ∃ ρ1, tgM t x ρ (S0 ++ [.lst acc]) = some ρ1 ∧ tt ρ1 (S0 ++ [.lst acc]) = .ok (b x) (S0 ++ [.lst acc]) ∧ (b x = true → me ρ1 (S0 ++ [.lst acc]) = .ok (f x) (S0 ++ [.lst acc])))
    (hl : xs.length ≤ 100000) (hm : xs.length < m) : lcGo it t tt me ρ S0.length m 0 (S0 ++ [.lst []]) = .ok (.loc S0.length) (S0 ++ [.lst ((xs.filter b).map f)]) := by
  refine lcI rfl xs (fun i S => S = S0 ++ [.lst (((xs.take i).filter b).map f)]) (fun r => r = .ok (.loc S0.length) (S0 ++ [.lst ((xs.filter b).map f)])) hm rfl ?_ ?_ ?_
  · rintro i S _ rfl
    exact hget i _
  · rintro i x S e rfl
    obtain ⟨ρ1, e1, e2, e3⟩ := hstep x (List.mem_of_getElem? e) (((xs.take i).filter b).map f)
    have e4 : xs.take (i + 1) = xs.take i ++ [x] := by rw [List.take_add_one, e]; rfl
    refine ⟨ρ1, e1, b x, _, e2, ?_, ?_⟩
    · intro hb
      rw [e4, List.filter_append, List.filter_cons_of_neg (by rw [hb]; exact Bool.false_ne_true), List.filter_nil, List.append_nil]
    · intro hb
      refine ⟨f x, _, ((xs.take i).filter b).map f, e3 hb, get_last _ _, ?_, ?_⟩
      · rw [lt_line]
        · trivial
        · rw [List.length_map]
          exact Nat.le_trans (List.length_filter_le _ _) (Nat.le_trans (by rw [List.length_take]; exact Nat.min_le_right _ _) hl)
      · rw [set_last, e4, List.filter_append, List.filter_cons_of_pos hb, List.filter_nil, List.map_append]
        rfl
  · rintro S rfl
    rw [List.take_length]
/-! ### while, by a measure -/
theorem whileI {c : MTs} {b : MSt} (P : Nat → Rho → Sto → Prop) (Q : SR → Prop) (hstep : ∀ n ρ S, P n ρ S → ∃ t S1, c ρ S = .ok t S1 ∧ (t = false → Q (.nx ρ S1)) ∧ (t = true → stepQ (fun ρ' S' => ∃ n', n' < n ∧ P n' ρ' S') Q (b ρ S1))) : ∀ m n ρ S, n < m → P n ρ S → Q (whileN c b m ρ S)
  | 0, n, ρ, S, h, _ => by omega
  | m + 1, n, ρ, S, h, p => by
    obtain ⟨t, S1, e, hf, ht⟩ := hstep n ρ S p
    unfold whileN
    rw [e]
    cases t with
    | false => exact hf rfl
    | true =>
      have q := ht rfl
      show Q (match b ρ S1 with
        | .nx ρ' S' => whileN c b m ρ' S'
        | .ct ρ' S' => whileN c b m ρ' S'
        | .bk ρ' S' => .nx ρ' S'
        | r => r)
      cases hb : b ρ S1 <;> rw [hb] at q
      case nx ρ' S' => obtain ⟨n', h1, h2⟩ := q; exact whileI P Q hstep m n' ρ' S' (by omega) h2
      case ct ρ' S' => obtain ⟨n', h1, h2⟩ := q; exact whileI P Q hstep m n' ρ' S' (by omega) h2
      all_goals exact q
theorem r_while {c : MTs} {b : MSt} {ρ : Rho} {S : Sto} : sWhile c b ρ S = whileN c b FUEL ρ S := rfl
theorem whileI' {c : MTs} {b : MSt} {ρ : Rho} {S : Sto} {r : SR} (hr : whileN c b FUEL ρ S = r) (P : Nat → Rho → Sto → Prop) (Q : SR → Prop) (n : Nat) (hn : n < 1000000) (h0 : P n ρ S) (hstep : ∀ n ρ S, P n ρ S → ∃ t S1, c ρ S = .ok t S1 ∧ (t = false → Q (.nx ρ S1)) ∧ (t = true → stepQ (fun ρ' S' => ∃ n', n' < n ∧ P n' ρ' S') Q (b ρ S1))) : Q r := by
  rw [← hr]
  exact whileI P Q hstep FUEL n ρ S hn h0
/-! ### in, of ints -/
theorem flat_ints {xs : List Int} : (xs.map D.int).all flatD = true := by
  rw [List.all_eq_true]
  intro x hx
  obtain ⟨i, _, rfl⟩ := List.mem_map.mp hx
  rfl
theorem inFlat_ints {a : Int} : ∀ {xs : List Int}, inFlat (.int a) (xs.map D.int) = decide (a ∈ xs)
  | [] => by simp [inFlat]
  | x :: xs => by
    have ih := inFlat_ints (a := a) (xs := xs)
    unfold inFlat at ih ⊢
    rw [List.map_cons, List.any_cons, ih]
    by_cases h : x = a
    · subst h; simp [eqFlat]
    · have h2 : a ≠ x := fun z => h z.symm
      have h3 : (x == a) = false := by simpa using h
      show ((x == a) || decide (a ∈ xs)) = _
      rw [h3, Bool.false_or]
      simp [List.mem_cons, h2]
theorem inQ_ints {l : Nat} {xs : List Int} {a : Int} {S : Sto} (h : S[l]? = some (.lst (xs.map .int))) : inQ false (.int a) (.loc l) S = .ok (.bl (decide (a ∈ xs))) S := by
  unfold inQ
  rw [r_items, h, kLst_ok]
  dsimp only
  rw [if_pos ⟨rfl, flat_ints⟩, inFlat_ints]
  rfl
theorem cList_ok {tr : Bool} {S : Sto} {d : D} {xs : List D} (h : items S d = some xs) : cList tr [d] S = newL tr xs S := by
  simp only [cList, h]
theorem cList_vl {tr : Bool} {S : Sto} {xs : List D} : cList tr [.vl xs] S = newL tr xs S := rfl
theorem cList_cl {tr : Bool} {S : Sto} {xs : List D} : cList tr [.cl xs] S = newL tr xs S := rfl
theorem cList_tup {tr : Bool} {S : Sto} {xs : List D} : cList tr [.tup xs] S = newL tr xs S := rfl
def liL (tr : Bool) (o : Option (List D)) (S : Sto) : Res D := match o with
  | some xs => newL tr xs S
  | none => .stuck
theorem cList_loc {tr : Bool} {S : Sto} {l : Nat} : cList tr [.loc l] S = liL tr (kLst S[l]?) S := by
  (simp only [cList, r_items]) <;> (generalize kLst S[l]? = o; cases o <;> rfl)
theorem liL_ok {tr : Bool} {S : Sto} {xs : List D} : liL tr (some xs) S = newL tr xs S := rfl
/-! ### list.clear -/
def kBM0 (r : Res D) (p : D → Sto → Bool) (g : D → Sto → Res D) : Res D := r.bind fun d S1 => if p d S1 = true then g d S1 else .stuck
theorem r_bm0 {p : D → Sto → Bool} {g : D → Sto → Res D} {mo : MEx} {ρ : Rho} {S : Sto} : mBM0 p g mo ρ S = kBM0 (mo ρ S) p g := rfl
theorem kBM0_ok {p : D → Sto → Bool} {g : D → Sto → Res D} {d : D} {S : Sto} (h : p d S = true) : kBM0 (.ok d S) p g = g d S := if_pos h
def kClear (o : Option O) (l : Nat) (S : Sto) : Res D := match o with
  | some (.lst _) => .ok .non (S.set l (.lst []))
  | _ => .stuck
theorem r_lClear {l : Nat} {S : Sto} : lClear (.loc l) S = kClear S[l]? l S := by
  (simp only [lClear, kClear]) <;> (generalize S[l]? = o; rcases o with _ | ⟨_ | _, _⟩ | _ | _ <;> rfl)
theorem kClear_ok {l : Nat} {xs : List D} {S : Sto} : kClear (some (.lst xs)) l S = .ok .non (S.set l (.lst [])) := rfl
/-! ### steps of dicts, sorted, index -/
theorem r_dct {ρ : Rho} {S : Sto} : mDct ρ S = .ok (.loc S.length) (S ++ [.dct false []]) := rfl
def kDc (o : Option O) : Option (List (Key × D)) := match o with
  | some (.dct _ kvs) => some kvs
  | _ => none
theorem r_dctO {l : Nat} {S : Sto} : dctO S (.loc l) = kDc S[l]? := by unfold dctO kDc; rfl
theorem dctO_vd {ks : List Key} {xs : List D} {S : Sto} : dctO S (.vd ks xs) = some (ks.zip xs) := rfl
theorem dctO_vl {xs : List D} {S : Sto} : dctO S (.vl xs) = none := rfl
theorem kDc_ok {fz : Bool} {kvs : List (Key × D)} : kDc (some (.dct fz kvs)) = some kvs := rfl
theorem kDc_l {xs : List D} : kDc (some (.lst xs)) = none := rfl
theorem r_dGet {o i : D} {S : Sto} : dGet o i S = lkO (dctO S o) (keyD i) S := rfl
theorem key_i {i : Int} : keyD (.int i) = some (.inl i) := rfl
theorem key_s {i : Str} : keyD (.str i) = some (.inr i) := rfl
theorem lkO_ok {kvs : List (Key × D)} {k : Key} {S : Sto} : lkO (some kvs) (some k) S = kLk (valD kvs k) S := by
  (unfold lkO kLk; dsimp only) <;> (generalize valD kvs k = o; cases o <;> rfl)
theorem lkO_no {k : Option Key} {S : Sto} : lkO none k S = .stuck := rfl
theorem ixO_no {j : Int} {S : Sto} : ixO none j S = .stuck := rfl
theorem kSetI_d {fz : Bool} {kvs : List (Key × D)} {j : Int} {v : D} {l : Nat} {S : Sto} : kSetI (some (.dct fz kvs)) j v l S = none := rfl
theorem nxO_none {ρ : Rho} : nxO ρ none = .stuck := rfl
def kDP (o : Option O) (k : Key) (v : D) (l : Nat) (S : Sto) : Option Sto := match o with
  | some (.dct false kvs) => if kvs.length < sizeLine then some (S.set l (.dct false (putD kvs k v))) else none
  | _ => none
theorem r_dPutI {l : Nat} {i : Int} {v : D} {S : Sto} : dPut (.loc l) (.int i) v S = kDP S[l]? (.inl i) v l S := by
  (simp only [dPut, keyD, kDP]) <;> (generalize S[l]? = o; rcases o with _ | _ | ⟨_ | _, _⟩ | _ <;> rfl)
theorem r_dPutS {l : Nat} {i : Str} {v : D} {S : Sto} : dPut (.loc l) (.str i) v S = kDP S[l]? (.inr i) v l S := by
  (simp only [dPut, keyD, kDP]) <;> (generalize S[l]? = o; rcases o with _ | _ | ⟨_ | _, _⟩ | _ <;> rfl)
theorem kDP_ok {kvs : List (Key × D)} {k : Key} {v : D} {l : Nat} {S : Sto} (h : kvs.length < sizeLine) : kDP (some (.dct false kvs)) k v l S = some (S.set l (.dct false (putD kvs k v))) := if_pos h
def kSD1 (r : Res D) (mo mi : MEx) (ρ : Rho) : SR := r.st ρ fun v S1 => (mo ρ S1).st ρ fun o S2 => (mi ρ S2).st ρ fun i S3 => nxO ρ (dPut o i v S3)
def kSD2 (r : Res D) (mi : MEx) (v : D) (ρ : Rho) : SR := r.st ρ fun o S2 => (mi ρ S2).st ρ fun i S3 => nxO ρ (dPut o i v S3)
def kSD3 (r : Res D) (o v : D) (ρ : Rho) : SR := r.st ρ fun i S3 => nxO ρ (dPut o i v S3)
theorem r_sdp {mo mi mv : MEx} {ρ : Rho} {S : Sto} : sDPutM mo mi mv ρ S = kSD1 (mv ρ S) mo mi ρ := rfl
theorem kSD1_ok {mo mi : MEx} {ρ : Rho} {S : Sto} {d : D} : kSD1 (.ok d S) mo mi ρ = kSD2 (mo ρ S) mi d ρ := rfl
theorem kSD2_ok {mi : MEx} {ρ : Rho} {S : Sto} {x d : D} : kSD2 (.ok x S) mi d ρ = kSD3 (mi ρ S) x d ρ := rfl
theorem kSD3_ok {ρ : Rho} {S : Sto} {x y d : D} : kSD3 (.ok y S) x d ρ = nxO ρ (dPut x y d S) := rfl
def kSAlt (r : SR) (b : MSt) (ρ : Rho) (S : Sto) : SR := match r with
  | .stuck => b ρ S
  | r => r
theorem r_salt {a b : MSt} {ρ : Rho} {S : Sto} : sAlt a b ρ S = kSAlt (a ρ S) b ρ S := rfl
theorem kSAlt_nx {b : MSt} {ρ ρ' : Rho} {S S' : Sto} : kSAlt (.nx ρ' S') b ρ S = .nx ρ' S' := rfl
theorem kSAlt_stuck {b : MSt} {ρ : Rho} {S : Sto} : kSAlt .stuck b ρ S = b ρ S := rfl
def kTAlt (r : Res Bool) (b : MTs) (ρ : Rho) (S : Sto) : Res Bool := match r with
  | .stuck => b ρ S
  | r => r
theorem r_talt {a b : MTs} {ρ : Rho} {S : Sto} : tAltM a b ρ S = kTAlt (a ρ S) b ρ S := rfl
theorem kTAlt_ok {b : MTs} {ρ : Rho} {S S' : Sto} {c : Bool} : kTAlt (.ok c S') b ρ S = .ok c S' := rfl
theorem kTAlt_stuck {b : MTs} {ρ : Rho} {S : Sto} : kTAlt .stuck b ρ S = b ρ S := rfl
theorem r_dIn {neg : Bool} {x y : D} {S : Sto} : dIn neg x y S = inO neg (dctO S y) (keyD x) S := rfl
theorem inO_in {kvs : List (Key × D)} {k : Key} {S : Sto} : inO false (some kvs) (some k) S = .ok (.bl (valD kvs k).isSome) S := rfl
theorem inO_notin {kvs : List (Key × D)} {k : Key} {S : Sto} : inO true (some kvs) (some k) S = .ok (.bl (!(valD kvs k).isSome)) S := rfl
theorem inO_no {neg : Bool} {k : Option Key} {S : Sto} : inO neg none k S = .stuck := rfl
theorem ints_of {ns : List Int} : intsOf (ns.map D.int) = some ns := by
  unfold intsOf
  rw [optAll_map (h := D.int) (g := fun i : Int => i) (fun x _ => rfl), List.map_id']
theorem r_sort {tr : Bool} {d : D} {S : Sto} : cSort tr [d] S = sortO tr (lstO S d) (dctO S d) S := rfl
theorem sortO_l {tr : Bool} {ns : List Int} {o : Option (List (Key × D))} {S : Sto} : sortO tr (some (ns.map .int)) o S = newL tr ((sortI ns).map .int) S := by
  simp only [sortO, ints_of]
theorem sortO_d {tr : Bool} {kvs : List (Key × D)} {ks : List Int} {S : Sto} (e : intKeys kvs = some ks) : sortO tr none (some kvs) S = newL tr ((sortI ks).map .int) S := by
  simp only [sortO, e]
theorem r_tix {ys : List Str} {ms : MAr} {ρ : Rho} {S : Sto} : mTix ys ms ρ S = (ms ρ S).bind (tIndex ys) := rfl
theorem tIndex_ok {ys : List Str} {z : Str} {j : Nat} {S : Sto} (h : ys.findIdx? (fun y => decide (y = z)) = some j) : tIndex ys [.str z] S = .ok (.int (j : Nat)) S := by
  simp only [tIndex, h]
theorem lIndex_ok {d : D} {xs : List D} {y : D} {j : Nat} {S : Sto} (h : lstO S d = some xs) (h1 : flatD y = true) (h2 : xs.all flatD = true) (h3 : xs.findIdx? (fun z => eqFlat z y) = some j) : lIndex d [y] S = .ok (.int (j : Nat)) S := by
  simp only [lIndex, h, h1, h2, h3, and_self, if_true]
theorem r_listU {tr : Bool} {d : D} {S : Sto} : cListU tr [d] S = listO tr (items S d) (dctO S d) S := rfl
theorem listO_l {tr : Bool} {xs : List D} {o : Option (List (Key × D))} {S : Sto} : listO tr (some xs) o S = newL tr xs S := rfl
theorem listO_d {tr : Bool} {kvs : List (Key × D)} {S : Sto} : listO tr none (some kvs) S = newL tr (kvs.map fun kv => keyOf kv.1) S := rfl
/-! ### for over a dict -/
def kForD (o : Option O) (l : Nat) (i : Nat) (t : Tg) (b : MSt) (ρ : Rho) (S : Sto) : SR := match o with
  | some (.dct false kvs) => unl l (forGo ⟨kyGet l, kvs.length + 1⟩ t b (kvs.length + 1) 0 ρ (S.set l (.dct true kvs)))
  | _ => .stuck
theorem r_forD {i l : Nat} {t : Tg} {b : MSt} {ρ : Rho} {S : Sto} (h : ρ[i]? = some (some (.loc l))) : sForD i t b ρ S = kForD S[l]? l i t b ρ S := by
  unfold sForD
  rw [h]
  dsimp only
  cases e : S[l]? with
  | none => rfl
  | some o =>
    cases o with
    | lst _ => rfl
    | ins _ _ => rfl
    | dct fz kvs =>
      cases fz with
      | true => rfl
      | false =>
        have hl := get_lt e
        have g : (S.set l (.dct true kvs))[l]? = some (.dct true kvs) := set_get_self e
        have q : miK (mVar i) ρ (S.set l (.dct true kvs)) = .ok ⟨kyGet l, kvs.length + 1⟩ (S.set l (.dct true kvs)) := by
          unfold miK Res.it
          rw [r_var, h, kVar_ok, Res.bind_ok]
          simp only [itK, g]
        dsimp only [kForD]
        rw [r_for, q, kFor_ok]
theorem kForD_ok {l i : Nat} {t : Tg} {b : MSt} {ρ : Rho} {S : Sto} {kvs : List (Key × D)} : kForD (some (.dct false kvs)) l i t b ρ S = unl l (forGo ⟨kyGet l, kvs.length + 1⟩ t b (kvs.length + 1) 0 ρ (S.set l (.dct true kvs))) := rfl
theorem kyGet_ok {S : Sto} {l : Nat} {kvs : List (Key × D)} (h : S[l]? = some (.dct true kvs)) (i : Nat) : kyGet l i S = some ((kvs.map fun kv => keyOf kv.1)[i]?) := by
  unfold kyGet
  rw [h, List.getElem?_map]
theorem unl_nx {l : Nat} {ρ : Rho} {S : Sto} {kvs : List (Key × D)} (h : S[l]? = some (.dct true kvs)) : unl l (.nx ρ S) = .nx ρ (S.set l (.dct false kvs)) := by
  simp only [unl, h]
theorem unl_rt {l : Nat} {d : D} {S : Sto} {kvs : List (Key × D)} (h : S[l]? = some (.dct true kvs)) : unl l (.rt d S) = .rt d (S.set l (.dct false kvs)) := by
  simp only [unl, h]
end MP

set_option Elab.async false
set_option linter.all false
set_option maxRecDepth 100000
set_option maxHeartbeats 4000000
namespace MP
open PySem L2
/-! ### data that is compared -/
mutual
/-- no truths, no objects -/
def D.dat : D → Bool
  | .non => true
  | .int _ => true
  | .str x => PyData.canLay0 (.str x)
  | .tup xs => datAll xs
  | .vl xs => datAll xs
  | _ => false
def datAll : List D → Bool
  | [] => true
  | x :: xs => x.dat && datAll xs
end
mutual
def D.py : D → PyData
  | .int i => .int i
  | .str x => .str x
  | .tup xs => .tuple (pyAll xs)
  | .vl xs => .list (pyAll xs)
  | _ => .none
def pyAll : List D → List PyData
  | [] => []
  | x :: xs => x.py :: pyAll xs
end
mutual
def D.dep : D → Nat
  | .tup xs => depAll xs + 1
  | .vl xs => depAll xs + 1
  | _ => 0
def depAll : List D → Nat
  | [] => 0
  | x :: xs => max x.dep (depAll xs)
end
mutual
theorem dat_pd {S : Sto} : ∀ {n : Nat} {d : D}, d.dat = true → d.dep ≤ n → pd S n d = some d.py
  | n, .non, _, _ => by simp only [D.py]; exact pd_non
  | n, .int i, _, _ => by simp only [D.py]; exact pd_int
  | n, .str x, _, _ => by simp only [D.py]; exact pd_str
  | 0, .tup xs, _, h => by simp [D.dep] at h
  | n + 1, .tup xs, h, l => by
    simp only [D.dat] at h
    simp only [D.dep] at l
    simp only [pd, datAll_pd h (show depAll xs ≤ n by omega), D.py, Option.map_some]
  | 0, .vl xs, _, h => by simp [D.dep] at h
  | n + 1, .vl xs, h, l => by
    simp only [D.dat] at h
    simp only [D.dep] at l
    simp only [pd, datAll_pd h (show depAll xs ≤ n by omega), D.py, Option.map_some]
  | _, .bl _, h, _ | _, .cl _, h, _ | _, .vd _ _, h, _ | _, .vo _ _ _, h, _ | _, .loc _, h, _ => by simp [D.dat] at h
theorem datAll_pd {S : Sto} : ∀ {n : Nat} {ds : List D}, datAll ds = true → depAll ds ≤ n → optAll (pd S n) ds = some (pyAll ds)
  | _, [], _, _ => rfl
  | n, d :: ds, h, l => by
    simp only [datAll, Bool.and_eq_true] at h
    simp only [depAll] at l
    simp only [optAll, dat_pd (n := n) h.1 (by omega), datAll_pd (n := n) h.2 (by omega), pyAll]
end
mutual
theorem dat_lay : ∀ {d : D}, d.dat = true → d.py.canLay0 = true ∧ nb d.py = true
  | .non, _ => ⟨rfl, rfl⟩
  | .int i, _ => ⟨rfl, rfl⟩
  | .str x, h => ⟨by simp only [D.dat] at h; simp only [D.py]; exact h, by simp only [D.py, nb]⟩
  | .tup xs, h => by
    simp only [D.dat] at h
    simp only [D.py, PyData.canLay0, nb]
    exact datAll_lay h
  | .vl xs, h => by
    simp only [D.dat] at h
    simp only [D.py, PyData.canLay0, nb]
    exact datAll_lay h
  | .bl _, h | .cl _, h | .vd _ _, h | .vo _ _ _, h | .loc _, h => by simp [D.dat] at h
theorem datAll_lay : ∀ {ds : List D}, datAll ds = true → PyData.canLayAll0 (pyAll ds) = true ∧ nbAll (pyAll ds) = true
  | [], _ => ⟨rfl, rfl⟩
  | d :: ds, h => by
    simp only [datAll, Bool.and_eq_true] at h
    simp only [pyAll, PyData.canLayAll0, nbAll, (dat_lay h.1).1, (dat_lay h.1).2, (datAll_lay h.2).1, (datAll_lay h.2).2, Bool.and_self, and_self]
end
mutual
theorem py_inj : ∀ {d e : D}, d.dat = true → e.dat = true → d.py = e.py → d = e := by
  intro d e h1 h2 h
  cases d <;> cases e <;> first
    | rfl
    | (exfalso; simp [D.dat] at h1; done)
    | (exfalso; simp [D.dat] at h2; done)
    | (exfalso; simp [D.py] at h; done)
    | (simp [D.py] at h; rw [h]; done)
    | (simp only [D.dat] at h1 h2; simp only [D.py, PyData.tuple.injEq, PyData.list.injEq] at h; rw [pyAll_inj h1 h2 h])
theorem pyAll_inj : ∀ {ds es : List D}, datAll ds = true → datAll es = true → pyAll ds = pyAll es → ds = es
  | [], [], _, _, _ => rfl
  | [], _ :: _, _, _, h => by simp [pyAll] at h
  | _ :: _, [], _, _, h => by simp [pyAll] at h
  | d :: ds, e :: es, h1, h2, h => by
    simp only [datAll, Bool.and_eq_true] at h1 h2
    simp only [pyAll, List.cons.injEq] at h
    rw [py_inj h1.1 h2.1 h.1, pyAll_inj h1.2 h2.2 h.2]
end
theorem eqD_dat {S : Sto} {x y : D} [Decidable (x = y)] (hx : x.dat = true) (hy : y.dat = true) (dx : x.dep ≤ 8) (dy : y.dep ≤ 8) : eqD S x y = some (decide (x = y)) := by
  have px := dat_pd (S := S) hx dx
  have py := dat_pd (S := S) hy dy
  by_cases h : x = y
  · rw [decide_eq_true h]
    subst h
    exact eqD_same px py (dat_lay hx).1
  · rw [decide_eq_false h]
    have hv : PyData.eqv x.py y.py = false := by
      cases q : PyData.eqv x.py y.py with
      | false => rfl
      | true => exact absurd (py_inj hx hy (eqv_eq (dat_lay hx).2 (dat_lay hy).2 q)) h
    by_cases hs : x.scalar = false ∨ y.scalar = false
    · exact eqD_pd px py (dat_lay hx).1 (dat_lay hy).1 false hv hs
    · cases x <;> cases y <;> first
        | (exact absurd (.inl rfl) hs)
        | (exact absurd (.inr rfl) hs)
        | (exfalso; simp [D.dat] at hx; done)
        | (exfalso; simp [D.dat] at hy; done)
        | exact absurd rfl h
        | (simp only [eqD]; done)
        | (simp only [eqD]; exact congrArg some (decide_eq_false fun z => h (by rw [z])))
theorem eqR_dat {S : Sto} {x y : D} [Decidable (x = y)] (hx : x.dat = true) (hy : y.dat = true) (dx : x.dep ≤ 8) (dy : y.dep ≤ 8) : eqR x y S = .ok (.bl (decide (x = y))) S := by
  unfold eqR; rw [eqD_dat hx hy dx dy]
theorem neR_dat {S : Sto} {x y : D} [Decidable (x = y)] (hx : x.dat = true) (hy : y.dat = true) (dx : x.dep ≤ 8) (dy : y.dep ≤ 8) : neR x y S = .ok (.bl (!decide (x = y))) S := by
  unfold neR; rw [eqD_dat hx hy dx dy]
theorem eqR_refl {S : Sto} {x : D} (hx : x.dat = true) (dx : x.dep ≤ 8) : eqR x x S = .ok (.bl true) S := by
  classical rw [eqR_dat hx hx dx dx, decide_eq_true rfl]
theorem neR_refl {S : Sto} {x : D} (hx : x.dat = true) (dx : x.dep ≤ 8) : neR x x S = .ok (.bl false) S := by
  classical rw [neR_dat hx hx dx dx, decide_eq_true rfl]; rfl
theorem eqR_diff {S : Sto} {x y : D} (h : x ≠ y) (hx : x.dat = true) (hy : y.dat = true) (dx : x.dep ≤ 8) (dy : y.dep ≤ 8) : eqR x y S = .ok (.bl false) S := by
  classical rw [eqR_dat hx hy dx dy, decide_eq_false h]
theorem neR_diff {S : Sto} {x y : D} (h : x ≠ y) (hx : x.dat = true) (hy : y.dat = true) (dx : x.dep ≤ 8) (dy : y.dep ≤ 8) : neR x y S = .ok (.bl true) S := by
  classical rw [neR_dat hx hy dx dy, decide_eq_false h]; rfl
/-- a list of the store is as its value -/
theorem eqD_locL {S : Sto} {l : Nat} {xs : List D} {y : D} (h : S[l]? = some (.lst xs)) : eqD S (.loc l) y = eqD S (.vl xs) y := by
  have e : pd S 8 (.loc l) = pd S 8 (.vl xs) := by simp only [pd, h]
  cases y <;> simp only [eqD, deepEq, e]
theorem eqD_locR {S : Sto} {l : Nat} {xs : List D} {y : D} (h : S[l]? = some (.lst xs)) : eqD S y (.loc l) = eqD S y (.vl xs) := by
  have e : pd S 8 (.loc l) = pd S 8 (.vl xs) := by simp only [pd, h]
  cases y <;> simp only [eqD, deepEq, e]
theorem eqD_clL {S : Sto} {xs : List D} {y : D} : eqD S (.cl xs) y = eqD S (.vl xs) y := by
  have e : pd S 8 (.cl xs) = pd S 8 (.vl xs) := by simp only [pd]
  cases y <;> simp only [eqD, deepEq, e]
theorem eqD_clR {S : Sto} {xs : List D} {y : D} : eqD S y (.cl xs) = eqD S y (.vl xs) := by
  have e : pd S 8 (.cl xs) = pd S 8 (.vl xs) := by simp only [pd]
  cases y <;> simp only [eqD, deepEq, e]
def kEqL (o : Option O) (l : Nat) (y : D) (S : Sto) : Res D := match o with
  | some (.lst xs) => eqR (.vl xs) y S
  | _ => eqR (.loc l) y S
def kEqR (o : Option O) (l : Nat) (y : D) (S : Sto) : Res D := match o with
  | some (.lst xs) => eqR y (.vl xs) S
  | _ => eqR y (.loc l) S
def kNeL (o : Option O) (l : Nat) (y : D) (S : Sto) : Res D := match o with
  | some (.lst xs) => neR (.vl xs) y S
  | _ => neR (.loc l) y S
def kNeR (o : Option O) (l : Nat) (y : D) (S : Sto) : Res D := match o with
  | some (.lst xs) => neR y (.vl xs) S
  | _ => neR y (.loc l) S
theorem r_eqL {l : Nat} {y : D} {S : Sto} : eqR (.loc l) y S = kEqL S[l]? l y S := by
  unfold kEqL; split
  · rename_i xs e; unfold eqR; rw [eqD_locL e]
  · rfl
theorem r_eqR {l : Nat} {y : D} {S : Sto} : eqR y (.loc l) S = kEqR S[l]? l y S := by
  unfold kEqR; split
  · rename_i xs e; unfold eqR; rw [eqD_locR e]
  · rfl
theorem r_neL {l : Nat} {y : D} {S : Sto} : neR (.loc l) y S = kNeL S[l]? l y S := by
  unfold kNeL; split
  · rename_i xs e; unfold neR; rw [eqD_locL e]
  · rfl
theorem r_neR {l : Nat} {y : D} {S : Sto} : neR y (.loc l) S = kNeR S[l]? l y S := by
  unfold kNeR; split
  · rename_i xs e; unfold neR; rw [eqD_locR e]
  · rfl
theorem kEqL_ok {xs : List D} {l : Nat} {y : D} {S : Sto} : kEqL (some (.lst xs)) l y S = eqR (.vl xs) y S := rfl
theorem kEqR_ok {xs : List D} {l : Nat} {y : D} {S : Sto} : kEqR (some (.lst xs)) l y S = eqR y (.vl xs) S := rfl
theorem kNeL_ok {xs : List D} {l : Nat} {y : D} {S : Sto} : kNeL (some (.lst xs)) l y S = neR (.vl xs) y S := rfl
theorem kNeR_ok {xs : List D} {l : Nat} {y : D} {S : Sto} : kNeR (some (.lst xs)) l y S = neR y (.vl xs) S := rfl
/-! facts of data -/
theorem dat_non : D.dat .non = true := rfl
theorem dat_int {i : Int} : D.dat (.int i) = true := rfl
theorem dat_tup {xs : List D} : D.dat (.tup xs) = datAll xs := by simp only [D.dat]
theorem dat_vl {xs : List D} : D.dat (.vl xs) = datAll xs := by simp only [D.dat]
theorem datAll_nil : datAll [] = true := rfl
theorem datAll_cons {x : D} {xs : List D} : datAll (x :: xs) = (x.dat && datAll xs) := by simp only [datAll]
theorem datAll_mem : ∀ {xs : List D}, datAll xs = true ↔ ∀ x ∈ xs, x.dat = true
  | [] => by simp [datAll]
  | x :: xs => by simp only [datAll, Bool.and_eq_true, datAll_mem (xs := xs), List.forall_mem_cons]
theorem datAll_append {xs ys : List D} : datAll (xs ++ ys) = (datAll xs && datAll ys) := by
  induction xs with
  | nil => simp [datAll]
  | cons x xs ih => simp only [List.cons_append, datAll, ih, Bool.and_assoc]
theorem dep_non : D.dep .non = 0 := rfl
theorem dep_int {i : Int} : D.dep (.int i) = 0 := rfl
theorem dep_str {i : Str} : D.dep (.str i) = 0 := rfl
theorem dep_tup {xs : List D} : D.dep (.tup xs) = depAll xs + 1 := by simp only [D.dep]
theorem dep_vl {xs : List D} : D.dep (.vl xs) = depAll xs + 1 := by simp only [D.dep]
theorem depAll_nil : depAll [] = 0 := rfl
theorem depAll_cons {x : D} {xs : List D} : depAll (x :: xs) = max x.dep (depAll xs) := by simp only [depAll]
theorem depAll_le {n : Nat} : ∀ {xs : List D}, depAll xs ≤ n ↔ ∀ x ∈ xs, x.dep ≤ n
  | [] => by simp [depAll]
  | x :: xs => by simp only [depAll, List.forall_mem_cons, ← depAll_le (xs := xs)]; omega
theorem datAll_ints {ns : List Int} : datAll (ns.map .int) = true := datAll_mem.mpr fun x h => by
  obtain ⟨i, _, rfl⟩ := List.mem_map.mp h; rfl
theorem depAll_ints {ns : List Int} : depAll (ns.map .int) = 0 := Nat.le_zero.mp (depAll_le.mpr fun x h => by
  obtain ⟨i, _, rfl⟩ := List.mem_map.mp h; exact Nat.le_refl _)
mutual
theorem dat_pure : ∀ {d : D}, d.dat = true → d.pureB = true
  | .non, _ | .int _, _ | .str _, _ | .vl _, _ => rfl
  | .tup xs, h => by simp only [D.dat] at h; simp only [D.pureB]; exact datAll_pure h
  | .bl _, h | .cl _, h | .vd _ _, h | .vo _ _ _, h | .loc _, h => by simp [D.dat] at h
theorem datAll_pure : ∀ {ds : List D}, datAll ds = true → pureAll ds = true
  | [], _ => rfl
  | d :: ds, h => by
    simp only [datAll, Bool.and_eq_true] at h
    simp only [pureAll, dat_pure h.1, datAll_pure h.2, Bool.and_self]
end
/-! ### a comprehension as a value -/
theorem lc_val {it : MIt} {t : Tg} {tt : MTs} {me : MEx} {ρ : Rho} {S : Sto} (xs : List D) (b : D → Bool) (f : D → D) (hf : it.fuel = xs.length + 1)
    (hget : ∀ i acc, it.get i (S ++ [.lst acc]) = some xs[i]?)
    (hstep : ∀ x, x ∈ xs → ∀ acc, ∃ ρ1, tgM t x ρ (S ++ [.lst acc]) = some ρ1 ∧ tt ρ1 (S ++ [.lst acc]) = .ok (b x) (S ++ [.lst acc]) ∧ (b x = true → me ρ1 (S ++ [.lst acc]) = .ok (f x) (S ++ [.lst acc])))
    (hl : xs.length ≤ 100000) (hp : pureAll ((xs.filter b).map f) = true) : exitR false S (lcGo it t tt me ρ S.length it.fuel 0 (S ++ [.lst []])) = .ok (.vl ((xs.filter b).map f)) S := by
  rw [hf, lc_pure xs b f hget hstep hl (by omega), exit_app, ite_f, exK_none, fz_loc0, get_last, kFz_lst hp, exO_some, take_app]
theorem lc_valx {t : Tg} {tt : MTs} {me : MEx} {ρ : Rho} {S : Sto} {xs : List D} (b : D → Bool) (f : D → D)
    (hstep : ∀ x, x ∈ xs → ∀ acc, ∃ ρ1, tgM t x ρ (S ++ [.lst acc]) = some ρ1 ∧ tt ρ1 (S ++ [.lst acc]) = .ok (b x) (S ++ [.lst acc]) ∧ (b x = true → me ρ1 (S ++ [.lst acc]) = .ok (f x) (S ++ [.lst acc])))
    (hl : xs.length ≤ 100000) (hp : pureAll ((xs.filter b).map f) = true) : exitR false S (lcGo ⟨fixGet xs, xs.length + 1⟩ t tt me ρ S.length (xs.length + 1) 0 (S ++ [.lst []])) = .ok (.vl ((xs.filter b).map f)) S :=
  lc_val (it := ⟨fixGet xs, xs.length + 1⟩) xs b f rfl (fun _ _ => rfl) hstep hl hp
/-- without a test -/
theorem lc_map {t : Tg} {me : MEx} {ρ : Rho} {S : Sto} {xs : List D} (f : D → D)
    (hstep : ∀ x, x ∈ xs → ∀ acc, ∃ ρ1, tgM t x ρ (S ++ [.lst acc]) = some ρ1 ∧ me ρ1 (S ++ [.lst acc]) = .ok (f x) (S ++ [.lst acc]))
    (hl : xs.length ≤ 100000) (hp : pureAll (xs.map f) = true) : exitR false S (lcGo ⟨fixGet xs, xs.length + 1⟩ t tYesM me ρ S.length (xs.length + 1) 0 (S ++ [.lst []])) = .ok (.vl (xs.map f)) S := by
  have e : xs.filter (fun _ => true) = xs := List.filter_eq_self.mpr fun _ _ => rfl
  have := lc_valx (t := t) (tt := tYesM) (me := me) (ρ := ρ) (S := S) (xs := xs) (fun _ => true) f (fun x hx acc => by
    obtain ⟨ρ1, h1, h2⟩ := hstep x hx acc
    exact ⟨ρ1, h1, rfl, fun _ => h2⟩) hl (by rw [e]; exact hp)
  rw [e] at this
  exact this
theorem lc_mapR {t : Tg} {me : MEx} {ρ : Rho} {S : Sto} {lo : Int} {n : Nat} (f : D → D)
    (hstep : ∀ x, x ∈ rngL lo n → ∀ acc, ∃ ρ1, tgM t x ρ (S ++ [.lst acc]) = some ρ1 ∧ me ρ1 (S ++ [.lst acc]) = .ok (f x) (S ++ [.lst acc]))
    (hl : n ≤ 100000) (hp : pureAll ((rngL lo n).map f) = true) : exitR false S (lcGo ⟨rngGet lo n, n + 1⟩ t tYesM me ρ S.length (n + 1) 0 (S ++ [.lst []])) = .ok (.vl ((rngL lo n).map f)) S := by
  have e : (rngL lo n).filter (fun _ => true) = rngL lo n := List.filter_eq_self.mpr fun _ _ => rfl
  have := lc_val (it := ⟨rngGet lo n, n + 1⟩) (t := t) (tt := tYesM) (me := me) (ρ := ρ) (S := S) (rngL lo n) (fun _ => true) f (by rw [rngL_len]) (fun i acc => @rng_get lo n i (S ++ [.lst acc])) (fun x hx acc => by
    obtain ⟨ρ1, h1, h2⟩ := hstep x hx acc
    exact ⟨ρ1, h1, rfl, fun _ => h2⟩) (by rw [rngL_len]; exact hl) (by rw [e]; exact hp)
  rw [e] at this
  exact this
/-! ### places of short lists -/
theorem at_0' {a : D} {t : List D} : atI (a :: t) 0 = some a := by unfold atI ixN; simp
theorem at_1' {a0 a1 : D} {t : List D} : atI (a0 :: a1 :: t) 1 = some a1 := atI_nat (j := 1) rfl
theorem at_2' {a0 a1 a2 : D} {t : List D} : atI (a0 :: a1 :: a2 :: t) 2 = some a2 := atI_nat (j := 2) rfl
theorem at_3' {a0 a1 a2 a3 : D} {t : List D} : atI (a0 :: a1 :: a2 :: a3 :: t) 3 = some a3 := atI_nat (j := 3) rfl
theorem at_4' {a0 a1 a2 a3 a4 : D} {t : List D} : atI (a0 :: a1 :: a2 :: a3 :: a4 :: t) 4 = some a4 := atI_nat (j := 4) rfl
theorem at_5' {a0 a1 a2 a3 a4 a5 : D} {t : List D} : atI (a0 :: a1 :: a2 :: a3 :: a4 :: a5 :: t) 5 = some a5 := atI_nat (j := 5) rfl
theorem at_6' {a0 a1 a2 a3 a4 a5 a6 : D} {t : List D} : atI (a0 :: a1 :: a2 :: a3 :: a4 :: a5 :: a6 :: t) 6 = some a6 := atI_nat (j := 6) rfl
theorem at_7' {a0 a1 a2 a3 a4 a5 a6 a7 : D} {t : List D} : atI (a0 :: a1 :: a2 :: a3 :: a4 :: a5 :: a6 :: a7 :: t) 7 = some a7 := atI_nat (j := 7) rfl
theorem at_8' {a0 a1 a2 a3 a4 a5 a6 a7 a8 : D} {t : List D} : atI (a0 :: a1 :: a2 :: a3 :: a4 :: a5 :: a6 :: a7 :: a8 :: t) 8 = some a8 := atI_nat (j := 8) rfl
theorem at_9' {a0 a1 a2 a3 a4 a5 a6 a7 a8 a9 : D} {t : List D} : atI (a0 :: a1 :: a2 :: a3 :: a4 :: a5 :: a6 :: a7 :: a8 :: a9 :: t) 9 = some a9 := atI_nat (j := 9) rfl
theorem at_10' {a0 a1 a2 a3 a4 a5 a6 a7 a8 a9 a10 : D} {t : List D} : atI (a0 :: a1 :: a2 :: a3 :: a4 :: a5 :: a6 :: a7 :: a8 :: a9 :: a10 :: t) 10 = some a10 := atI_nat (j := 10) rfl
theorem at_11' {a0 a1 a2 a3 a4 a5 a6 a7 a8 a9 a10 a11 : D} {t : List D} : atI (a0 :: a1 :: a2 :: a3 :: a4 :: a5 :: a6 :: a7 :: a8 :: a9 :: a10 :: a11 :: t) 11 = some a11 := atI_nat (j := 11) rfl
theorem at_12' {a0 a1 a2 a3 a4 a5 a6 a7 a8 a9 a10 a11 a12 : D} {t : List D} : atI (a0 :: a1 :: a2 :: a3 :: a4 :: a5 :: a6 :: a7 :: a8 :: a9 :: a10 :: a11 :: a12 :: t) 12 = some a12 := atI_nat (j := 12) rfl
theorem at_13' {a0 a1 a2 a3 a4 a5 a6 a7 a8 a9 a10 a11 a12 a13 : D} {t : List D} : atI (a0 :: a1 :: a2 :: a3 :: a4 :: a5 :: a6 :: a7 :: a8 :: a9 :: a10 :: a11 :: a12 :: a13 :: t) 13 = some a13 := atI_nat (j := 13) rfl
theorem at_14' {a0 a1 a2 a3 a4 a5 a6 a7 a8 a9 a10 a11 a12 a13 a14 : D} {t : List D} : atI (a0 :: a1 :: a2 :: a3 :: a4 :: a5 :: a6 :: a7 :: a8 :: a9 :: a10 :: a11 :: a12 :: a13 :: a14 :: t) 14 = some a14 := atI_nat (j := 14) rfl
theorem at_15' {a0 a1 a2 a3 a4 a5 a6 a7 a8 a9 a10 a11 a12 a13 a14 a15 : D} {t : List D} : atI (a0 :: a1 :: a2 :: a3 :: a4 :: a5 :: a6 :: a7 :: a8 :: a9 :: a10 :: a11 :: a12 :: a13 :: a14 :: a15 :: t) 15 = some a15 := atI_nat (j := 15) rfl
theorem at_16' {a0 a1 a2 a3 a4 a5 a6 a7 a8 a9 a10 a11 a12 a13 a14 a15 a16 : D} {t : List D} : atI (a0 :: a1 :: a2 :: a3 :: a4 :: a5 :: a6 :: a7 :: a8 :: a9 :: a10 :: a11 :: a12 :: a13 :: a14 :: a15 :: a16 :: t) 16 = some a16 := atI_nat (j := 16) rfl
theorem at_17' {a0 a1 a2 a3 a4 a5 a6 a7 a8 a9 a10 a11 a12 a13 a14 a15 a16 a17 : D} {t : List D} : atI (a0 :: a1 :: a2 :: a3 :: a4 :: a5 :: a6 :: a7 :: a8 :: a9 :: a10 :: a11 :: a12 :: a13 :: a14 :: a15 :: a16 :: a17 :: t) 17 = some a17 := atI_nat (j := 17) rfl
theorem at_18' {a0 a1 a2 a3 a4 a5 a6 a7 a8 a9 a10 a11 a12 a13 a14 a15 a16 a17 a18 : D} {t : List D} : atI (a0 :: a1 :: a2 :: a3 :: a4 :: a5 :: a6 :: a7 :: a8 :: a9 :: a10 :: a11 :: a12 :: a13 :: a14 :: a15 :: a16 :: a17 :: a18 :: t) 18 = some a18 := atI_nat (j := 18) rfl
theorem at_19' {a0 a1 a2 a3 a4 a5 a6 a7 a8 a9 a10 a11 a12 a13 a14 a15 a16 a17 a18 a19 : D} {t : List D} : atI (a0 :: a1 :: a2 :: a3 :: a4 :: a5 :: a6 :: a7 :: a8 :: a9 :: a10 :: a11 :: a12 :: a13 :: a14 :: a15 :: a16 :: a17 :: a18 :: a19 :: t) 19 = some a19 := atI_nat (j := 19) rfl
theorem at_m1 {a : D} {t : List D} : atI (a :: t) (-1) = (a :: t).getLast? := by
  unfold atI ixN
  rw [if_neg (by omega), if_pos (by simp; omega), Option.bind_some, List.getLast?_eq_getElem?]
  congr 1
  simp only [List.length_cons]
  omega
/-! more steps -/
theorem lk_ne {f g : Fl} {x : D} {fs : List (Fl × D)} (h : f ≠ g) : List.lookup f ((g, x) :: fs) = List.lookup f fs := by
  have : (f == g) = false := by simpa using h
  simp only [List.lookup, this]
theorem ty_vl (i : List D) (S : Sto) : D.ty (.vl i) S = some "list" := rfl
theorem ty_cl (i : List D) (S : Sto) : D.ty (.cl i) S = some "list" := rfl
theorem ty_vd (ks : List Key) (i : List D) (S : Sto) : D.ty (.vd ks i) S = some "dict" := rfl
theorem ty_vo (c : Cl) (fs : List Fl) (i : List D) (S : Sto) : D.ty (.vo c fs i) S = none := rfl
theorem isN_vl (xs : List D) : D.isN (.vl xs) = false := rfl
theorem isN_vo (c : Cl) (fs : List Fl) (i : List D) : D.isN (.vo c fs i) = false := rfl
def kIso (o : Option String) (d : D) (tab : List (Cl × Bool)) (S : Sto) : Res D := match o with
  | some _ => .ok (.bl false) S
  | none => match d with
    | .loc l => match S[l]? with
      | some (.ins c _) => isoF tab c S
      | _ => .stuck
    | .vo c _ _ => isoF tab c S
    | _ => .stuck
theorem r_iso {tab : List (Cl × Bool)} {m : MEx} {ρ : Rho} {S : Sto} : mIso tab m ρ S = (m ρ S).bind (isoR tab) := rfl
theorem r_isoR {tab : List (Cl × Bool)} {d : D} {S : Sto} : isoR tab d S = kIso (d.ty S) d tab S := by unfold isoR kIso; rfl
theorem kIso_no {t : String} {d : D} {tab : List (Cl × Bool)} {S : Sto} : kIso (some t) d tab S = .ok (.bl false) S := rfl
theorem kIso_vo {c : Cl} {fs : List Fl} {xs : List D} {tab : List (Cl × Bool)} {S : Sto} : kIso none (.vo c fs xs) tab S = isoF tab c S := rfl
theorem isoF_ok {c : Cl} {b : Bool} {tab : List (Cl × Bool)} {S : Sto} (h : tab.find? (fun x => decide (x.1 = c)) = some (c, b)) : isoF tab c S = .ok (.bl b) S := by
  unfold isoF; rw [h]
theorem rngL_0 {lo : Int} : rngL lo 0 = [] := rfl
theorem rngL_s {lo : Int} {n : Nat} : rngL lo (n + 1) = .int lo :: rngL (lo + 1) n := by
  unfold rngL
  rw [List.range_succ_eq_map, List.map_cons, List.map_map]
  simp only [Int.natCast_zero, Int.add_zero, List.cons.injEq, true_and]
  refine List.map_congr_left fun k _ => ?_
  simp only [Function.comp, Nat.succ_eq_add_one]
  congr 1
  omega
theorem rngL_mem {lo : Int} {n : Nat} {x : D} (h : x ∈ rngL lo n) : ∃ k : Nat, k < n ∧ x = .int (lo + k) := by
  obtain ⟨k, hk, rfl⟩ := List.mem_map.mp h
  exact ⟨k, List.mem_range.mp hk, rfl⟩
theorem rngL_get {lo : Int} {n i : Nat} (h : i < n) : (rngL lo n)[i]? = some (.int (lo + i)) := by
  simp [rngL, h]
theorem rng_fix {lo : Int} {n k : Nat} : (⟨rngGet lo n, k⟩ : MIt) = ⟨fixGet (rngL lo n), k⟩ := by
  congr 1
  funext i S
  exact @rng_get lo n i S
theorem enu_fix {xs : List D} {k : Nat} : (⟨enFix xs, k⟩ : MIt) = ⟨fixGet (enuL xs), k⟩ := by
  congr 1
  funext i S
  simp [enFix, fixGet, enuL, List.getElem?_mapIdx]
theorem enuL_len {xs : List D} : (enuL xs).length = xs.length := by simp [enuL]
theorem enu_vl {xs : List D} {S : Sto} : itEn [.vl xs] S = some ⟨fixGet (enuL xs), xs.length + 1⟩ := by rw [← enu_fix]; rfl
theorem enu_cl {xs : List D} {S : Sto} : itEn [.cl xs] S = some ⟨fixGet (enuL xs), xs.length + 1⟩ := by rw [← enu_fix]; rfl
theorem rg1 {j : Int} {S : Sto} (h0 : 0 ≤ j) (h1 : j < 2 ^ 62) : itR1 [.int j] S = some ⟨fixGet (rngL 0 j.toNat), j.toNat + 1⟩ := by rw [itR1_ok h0 h1, rng_fix]
theorem rg2 {i j : Int} {S : Sto} (h0 : 0 ≤ i) (h1 : i < 2 ^ 62) (h2 : 0 ≤ j) (h3 : j < 2 ^ 62) : itR2 [.int i, .int j] S = some ⟨fixGet (rngL i (j - i).toNat), (j - i).toNat + 1⟩ := by rw [itR2_ok ⟨h0, h1⟩ ⟨h2, h3⟩, rng_fix]
theorem rg1n {n : Nat} {S : Sto} (h : n < 2 ^ 62) : itR1 [.int (n : Int)] S = some ⟨fixGet (rngL 0 n), n + 1⟩ := by
  rw [rg1 (by omega) (by omega), Int.toNat_natCast]
theorem rg2n {i j : Nat} {S : Sto} (h : i < 2 ^ 62) (h2 : j < 2 ^ 62) : itR2 [.int (i : Int), .int (j : Int)] S = some ⟨fixGet (rngL i (j - i)), j - i + 1⟩ := by
  rw [rg2 (by omega) (by omega) (by omega) (by omega), show ((j : Int) - (i : Int)).toNat = j - i by omega]
theorem rg2m {i : Int} {j : Nat} {S : Sto} (h0 : 0 ≤ i) (h1 : i < 2 ^ 62) (h : i + j < 2 ^ 62) : itR2 [.int i, .int (i + (j : Int))] S = some ⟨fixGet (rngL i j), j + 1⟩ := by
  rw [rg2 h0 h1 (by omega) (by omega), show (i + (j : Int) - i).toNat = j by omega]
/-! a comprehension that is a value -/
noncomputable def lcF (xs : List D) (k : Nat) (t : Tg) (tt : MTs) (me : MEx) (ρ : Rho) (S : Sto) : Res D := exitR false S (lcGo ⟨fixGet xs, k⟩ t tt me ρ S.length k 0 (S ++ [.lst []]))
noncomputable def kLV (S : Sto) (r : Res MIt) (t : Tg) (tt : MTs) (me : MEx) (own : List Nat) (ρ : Rho) : Res D := exitR false S (kLc r t tt me own ρ)
theorem r_lcv {mi : MIx} {t : Tg} {tt : MTs} {me : MEx} {own : List Nat} {ρ : Rho} {S : Sto} : mLcV mi t tt me own ρ S = kLV S (mi ρ S) t tt me own ρ := rfl
theorem kLV_fix {xs : List D} {k : Nat} {t : Tg} {tt : MTs} {me : MEx} {own : List Nat} {ρ : Rho} {S : Sto} : kLV S (.ok ⟨fixGet xs, k⟩ S) t tt me own ρ = lcF xs k t tt me (clr own ρ) S := rfl
theorem kLV_lst {l k : Nat} {t : Tg} {tt : MTs} {me : MEx} {own : List Nat} {ρ : Rho} {S : Sto} : kLV S (.ok ⟨lstGet l, k⟩ S) t tt me own ρ = exitR false S (lcGo ⟨lstGet l, k⟩ t tt me (clr own ρ) S.length k 0 (S ++ [.lst []])) := rfl
theorem lcF_fil {t : Tg} {tt : MTs} {me : MEx} {ρ : Rho} {S : Sto} {xs : List D} {k : Nat} (b : D → Bool) (f : D → D)
    (hstep : ∀ x, x ∈ xs → ∀ acc, ∃ ρ1, tgM t x ρ (S ++ [.lst acc]) = some ρ1 ∧ tt ρ1 (S ++ [.lst acc]) = .ok (b x) (S ++ [.lst acc]) ∧ (b x = true → me ρ1 (S ++ [.lst acc]) = .ok (f x) (S ++ [.lst acc])))
    (hk : k = xs.length + 1) (hl : xs.length ≤ 100000) (hp : pureAll ((xs.filter b).map f) = true) : lcF xs k t tt me ρ S = .ok (.vl ((xs.filter b).map f)) S := by
  subst hk
  exact lc_valx b f hstep hl hp
theorem lcF_map {t : Tg} {me : MEx} {ρ : Rho} {S : Sto} {xs : List D} {k : Nat} (f : D → D)
    (hstep : ∀ x, x ∈ xs → ∀ acc, ∃ ρ1, tgM t x ρ (S ++ [.lst acc]) = some ρ1 ∧ me ρ1 (S ++ [.lst acc]) = .ok (f x) (S ++ [.lst acc]))
    (hk : k = xs.length + 1) (hl : xs.length ≤ 100000) (hp : pureAll (xs.map f) = true) : lcF xs k t tYesM me ρ S = .ok (.vl (xs.map f)) S := by
  subst hk
  exact lc_map f hstep hl hp
/-- over a list of the store -/
theorem lcL_map {t : Tg} {me : MEx} {ρ : Rho} {S : Sto} {xs : List D} {l k : Nat} (hS : S[l]? = some (.lst xs)) (f : D → D)
    (hstep : ∀ x, x ∈ xs → ∀ acc, ∃ ρ1, tgM t x ρ (S ++ [.lst acc]) = some ρ1 ∧ me ρ1 (S ++ [.lst acc]) = .ok (f x) (S ++ [.lst acc]))
    (hk : k = xs.length + 1) (hl : xs.length ≤ 100000) (hp : pureAll (xs.map f) = true) : exitR false S (lcGo ⟨lstGet l, k⟩ t tYesM me ρ S.length k 0 (S ++ [.lst []])) = .ok (.vl (xs.map f)) S := by
  subst hk
  have e : xs.filter (fun _ => true) = xs := List.filter_eq_self.mpr fun _ _ => rfl
  have := lc_val (it := ⟨lstGet l, xs.length + 1⟩) (t := t) (tt := tYesM) (me := me) (ρ := ρ) (S := S) xs (fun _ => true) f rfl (fun i acc => lstGet_ok (get_app hS) i) (fun x hx acc => by
    obtain ⟨ρ1, h1, h2⟩ := hstep x hx acc
    exact ⟨ρ1, h1, rfl, fun _ => h2⟩) hl (by rw [e]; exact hp)
  rw [e] at this
  exact this
/-! strings that are compared -/
theorem strOk_lit {x : Str} (h : PyData.canLay0 (.str x) = true) : D.dat (.str x) = true := by simp only [D.dat]; exact h
/-! types -/
theorem it_NoneType_bool : isT "NoneType" "bool" = false := by decide
theorem it_NoneType_str : isT "NoneType" "str" = false := by decide
theorem it_NoneType_int : isT "NoneType" "int" = false := by decide
theorem it_NoneType_tuple : isT "NoneType" "tuple" = false := by decide
theorem it_NoneType_list : isT "NoneType" "list" = false := by decide
theorem it_NoneType_dict : isT "NoneType" "dict" = false := by decide
theorem it_bool_bool : isT "bool" "bool" = true := by decide
theorem it_bool_str : isT "bool" "str" = false := by decide
theorem it_bool_int : isT "bool" "int" = true := by decide
theorem it_bool_tuple : isT "bool" "tuple" = false := by decide
theorem it_bool_list : isT "bool" "list" = false := by decide
theorem it_bool_dict : isT "bool" "dict" = false := by decide
theorem it_int_bool : isT "int" "bool" = false := by decide
theorem it_int_str : isT "int" "str" = false := by decide
theorem it_int_int : isT "int" "int" = true := by decide
theorem it_int_tuple : isT "int" "tuple" = false := by decide
theorem it_int_list : isT "int" "list" = false := by decide
theorem it_int_dict : isT "int" "dict" = false := by decide
theorem it_str_bool : isT "str" "bool" = false := by decide
theorem it_str_str : isT "str" "str" = true := by decide
theorem it_str_int : isT "str" "int" = false := by decide
theorem it_str_tuple : isT "str" "tuple" = false := by decide
theorem it_str_list : isT "str" "list" = false := by decide
theorem it_str_dict : isT "str" "dict" = false := by decide
theorem it_tuple_bool : isT "tuple" "bool" = false := by decide
theorem it_tuple_str : isT "tuple" "str" = false := by decide
theorem it_tuple_int : isT "tuple" "int" = false := by decide
theorem it_tuple_tuple : isT "tuple" "tuple" = true := by decide
theorem it_tuple_list : isT "tuple" "list" = false := by decide
theorem it_tuple_dict : isT "tuple" "dict" = false := by decide
theorem it_list_bool : isT "list" "bool" = false := by decide
theorem it_list_str : isT "list" "str" = false := by decide
theorem it_list_int : isT "list" "int" = false := by decide
theorem it_list_tuple : isT "list" "tuple" = false := by decide
theorem it_list_list : isT "list" "list" = true := by decide
theorem it_list_dict : isT "list" "dict" = false := by decide
theorem it_dict_bool : isT "dict" "bool" = false := by decide
theorem it_dict_str : isT "dict" "str" = false := by decide
theorem it_dict_int : isT "dict" "int" = false := by decide
theorem it_dict_tuple : isT "dict" "tuple" = false := by decide
theorem it_dict_list : isT "dict" "list" = false := by decide
theorem it_dict_dict : isT "dict" "dict" = true := by decide
/-! written texts -/
theorem ofS_inj {a b : String} : (Str.ofString a = Str.ofString b) = (a = b) := by
  refine propext ⟨fun h => ?_, fun h => by rw [h]⟩
  rw [Str.ofString_eq_toList, Str.ofString_eq_toList] at h
  injection h with h
  have h2 : a.toList.map Char.toNat = b.toList.map Char.toNat := by
    have := congrArg Array.toList h
    simpa using this
  refine String.toList_inj.mp ((List.map_inj_right (fun x y e => ?_)).mp h2)
  exact Char.ext (UInt32.toNat_inj.mp e)
theorem dat_ofS {a : String} : D.dat (.str (Str.ofString a)) = true := by
  simp only [D.dat, PyData.canLay0]
  unfold PyData.strOk
  rw [Str.ofString_eq_toList, List.all_toArray, List.all_eq_true]
  intro x hx
  obtain ⟨c, _, rfl⟩ := List.mem_map.mp hx
  have h2 : c.toNat = c.val.toNat := rfl
  refine decide_eq_true ?_
  rw [h2]
  rcases c.valid with h | h
  · omega
  · omega
/-! a short list of the store, turn by turn -/
theorem for_lst {l k : Nat} {t : Tg} {b : MSt} {ρ : Rho} {S : Sto} : kFor (.ok ⟨lstGet l, k⟩ S) t b ρ = forGo ⟨lstGet l, k⟩ t b k 0 ρ S := rfl
def kG4 (r : SR) (l k : Nat) (t : Tg) (b : MSt) (n i : Nat) : SR := match r with
  | .nx ρ' S' => forGo ⟨lstGet l, k⟩ t b n (i + 1) ρ' S'
  | .ct ρ' S' => forGo ⟨lstGet l, k⟩ t b n (i + 1) ρ' S'
  | .bk ρ' S' => .nx ρ' S'
  | r => r
def kG3 (r : SR) (l k : Nat) (t : Tg) (b : MSt) (n i : Nat) : SR := match r with
  | .nx ρ S => kG4 (b ρ S) l k t b n i
  | _ => .stuck
def kG2 (o : Option D) (l k : Nat) (t : Tg) (b : MSt) (n i : Nat) (ρ : Rho) (S : Sto) : SR := match o with
  | none => .nx ρ S
  | some x => kG3 (sTgO (tgM t x ρ S) S) l k t b n i
def kG1 (o : Option (List D)) (l k : Nat) (t : Tg) (b : MSt) (n i : Nat) (ρ : Rho) (S : Sto) : SR := match o with
  | none => .stuck
  | some xs => kG2 xs[i]? l k t b n i ρ S
theorem forG_r {l k : Nat} {t : Tg} {b : MSt} {n i : Nat} {ρ : Rho} {S : Sto} : forGo ⟨lstGet l, k⟩ t b (n + 1) i ρ S = kG1 (kLst S[l]?) l k t b n i ρ S := by
  unfold forGo
  dsimp only [lstGet]
  cases S[l]? with
  | none => rfl
  | some o =>
    cases o with
    | lst xs =>
      dsimp only [kLst, kG1]
      cases xs[i]? with
      | none => rfl
      | some x =>
        dsimp only [kG2]
        cases tgM t x ρ S with
        | none => rfl
        | some ρ1 =>
          rw [sTgO_some]
          (dsimp only [kG3, kG4]) <;> (cases b ρ1 S <;> rfl)
    | _ => rfl
theorem kG1_ok {l k : Nat} {t : Tg} {b : MSt} {n i : Nat} {ρ : Rho} {S : Sto} {xs : List D} : kG1 (some xs) l k t b n i ρ S = kG2 xs[i]? l k t b n i ρ S := rfl
theorem kG2_none {l k : Nat} {t : Tg} {b : MSt} {n i : Nat} {ρ : Rho} {S : Sto} : kG2 none l k t b n i ρ S = .nx ρ S := rfl
theorem kG2_some {l k : Nat} {t : Tg} {b : MSt} {n i : Nat} {ρ : Rho} {S : Sto} {x : D} : kG2 (some x) l k t b n i ρ S = kG3 (sTgO (tgM t x ρ S) S) l k t b n i := rfl
theorem kG3_nx {l k : Nat} {t : Tg} {b : MSt} {n i : Nat} {ρ : Rho} {S : Sto} : kG3 (.nx ρ S) l k t b n i = kG4 (b ρ S) l k t b n i := rfl
theorem kG4_nx {l k : Nat} {t : Tg} {b : MSt} {n i : Nat} {ρ : Rho} {S : Sto} : kG4 (.nx ρ S) l k t b n i = forGo ⟨lstGet l, k⟩ t b n (i + 1) ρ S := rfl
theorem kG4_ct {l k : Nat} {t : Tg} {b : MSt} {n i : Nat} {ρ : Rho} {S : Sto} : kG4 (.ct ρ S) l k t b n i = forGo ⟨lstGet l, k⟩ t b n (i + 1) ρ S := rfl
theorem kG4_bk {l k : Nat} {t : Tg} {b : MSt} {n i : Nat} {ρ : Rho} {S : Sto} : kG4 (.bk ρ S) l k t b n i = .nx ρ S := rfl
theorem kG4_rt {l k : Nat} {t : Tg} {b : MSt} {n i : Nat} {d : D} {S : Sto} : kG4 (.rt d S) l k t b n i = .rt d S := rfl
theorem isoF_hit {c : Cl} {b : Bool} {tab : List (Cl × Bool)} {S : Sto} : isoF ((c, b) :: tab) c S = .ok (.bl b) S := by
  unfold isoF; simp
theorem isoF_miss {c c' : Cl} {b : Bool} {tab : List (Cl × Bool)} {S : Sto} (h : c' ≠ c) : isoF ((c', b) :: tab) c S = isoF tab c S := by
  unfold isoF; rw [List.find?_cons_of_neg (by simpa using h)]
/-! stores that are written out -/
def cldN (n : Nat) : Sto → Sto → Prop
  | [], _ => True
  | a :: as, b :: bs => (b = a ∨ b.low n = true) ∧ cldN n as bs
  | _ :: _, [] => False
theorem cldN_ok {n : Nat} : ∀ {S S' : Sto}, cldN n S S' → S.length ≤ S'.length ∧ ∀ i, i < S.length → S'[i]? = S[i]? ∨ ∃ o, S'[i]? = some o ∧ o.low n = true
  | [], _, _ => ⟨Nat.zero_le _, fun i h => absurd h (Nat.not_lt_zero i)⟩
  | a :: as, b :: bs, h => by
    obtain ⟨h1, h2⟩ := cldN_ok h.2
    refine ⟨by simp; exact h1, fun i hi => ?_⟩
    cases i with
    | zero =>
      rcases h.1 with e | e
      · exact .inl (by rw [e]; rfl)
      · exact .inr ⟨b, rfl, e⟩
    | succ i =>
      rw [List.getElem?_cons_succ, List.getElem?_cons_succ]
      exact h2 i (by simpa using hi)
theorem Cld.of {S S' : Sto} (h : cldN S.length S S') : Cld S S' := cldN_ok h
theorem cldN_nil {n : Nat} {S : Sto} : cldN n [] S = True := rfl
theorem cldN_same {n : Nat} {a : O} {S T : Sto} : cldN n (a :: S) (a :: T) = cldN n S T := propext ⟨fun h => h.2, fun h => ⟨.inl rfl, h⟩⟩
theorem cldN_low {n : Nat} {a b : O} {S T : Sto} (h : b.low n = true) : cldN n (a :: S) (b :: T) = cldN n S T := propext ⟨fun h => h.2, fun h' => ⟨.inr h, h'⟩⟩
theorem cld_app' {S T : Sto} : Cld S (S ++ T) = True := eq_true cld_app
theorem cld_self' {S : Sto} : Cld S S = True := eq_true cld_self
theorem cld_nil {S : Sto} : Cld [] S = True := eq_true ⟨Nat.zero_le _, fun i h => absurd h (Nat.not_lt_zero i)⟩
/-- one object is written, the store grows -/
theorem cld_set {S T : Sto} {l : Nat} {o : O} (h : o.low S.length = true) : Cld S (S.set l o ++ T) = True := eq_true ⟨by simp, fun i hi => by
  rw [List.getElem?_append_left (by simpa using hi)]
  by_cases e : l = i
  · subst e
    exact .inr ⟨o, by rw [List.getElem?_set_self hi], h⟩
  · exact .inl (List.getElem?_set_ne e)⟩
theorem cld_set0 {S : Sto} {l : Nat} {o : O} (h : o.low S.length = true) : Cld S (S.set l o) = True := by
  have := cld_set (T := []) (l := l) h
  rw [List.append_nil] at this
  exact this
theorem low_lst {n : Nat} {xs : List D} (h : pureAll xs = true) : O.low n (.lst xs) = true := pureAll_low h
theorem low_dct {n : Nat} {fz : Bool} {kvs : List (Key × D)} (h : pureAll (kvs.map (·.2)) = true) : O.low n (.dct fz kvs) = true := pureAll_low h
theorem low_ins {n : Nat} {c : Cl} {fs : List (Fl × D)} : O.low n (.ins c fs) = lowAll n (fs.map (·.2)) := rfl
theorem lowAll_nil {n : Nat} : lowAll n [] = true := rfl
theorem lowAll_cons {n : Nat} {x : D} {xs : List D} : lowAll n (x :: xs) = (x.low n && lowAll n xs) := by simp only [lowAll]
theorem low_loc {n l : Nat} : D.low n (.loc l) = decide (l < n) := by simp only [D.low]
theorem low_pure {n : Nat} {d : D} (h : d.pureB = true) : d.low n = true := pure_low h
theorem cld_lit {a : O} {S S' : Sto} : Cld (a :: S) S' = Cld (a :: S) S' := rfl
def kKp (o : Option O) : Option O := match o with
  | some (.lst xs) => if pureAll xs = true then some (.lst xs) else none
  | some (.dct false kvs) => if pureAll (kvs.map (·.2)) = true then some (.dct false kvs) else none
  | _ => none
theorem r_keep {S : Sto} {n l : Nat} (h : n ≤ l) : keepO S n (.loc l) = kKp S[l]? := by
  unfold keepO
  dsimp only
  rw [if_neg (by omega)]
  rfl
theorem kKp_l {xs : List D} (h : pureAll xs = true) : kKp (some (.lst xs)) = some (.lst xs) := if_pos h
theorem kKp_d {kvs : List (Key × D)} (h : pureAll (kvs.map (·.2)) = true) : kKp (some (.dct false kvs)) = some (.dct false kvs) := if_pos h
theorem lstO_app {S T : Sto} {d : D} {xs : List D} (h : lstO S d = some xs) : lstO (S ++ T) d = some xs := by
  cases d with
  | loc l =>
    rw [r_lstO] at h ⊢
    cases e : S[l]? with
    | none => rw [e] at h; cases h
    | some o => rw [get_app e, ← e]; exact h
  | _ => exact h
theorem items_app {S T : Sto} {d : D} {xs : List D} (h : items S d = some xs) : items (S ++ T) d = some xs := by
  cases d with
  | loc l => exact lstO_app (d := .loc l) h
  | _ => exact h
def kExt (o : Option O) (l : Nat) (ys : Option (List D)) (S : Sto) : Res D := match o with
  | some (.lst xs) => extO l xs ys S
  | _ => .stuck
theorem r_lExt {l : Nat} {d : D} {S : Sto} : lExtend (.loc l) [d] S = kExt S[l]? l (lsmO S d) S := by unfold lExtend kExt; rfl
theorem kExt_ok {l : Nat} {xs : List D} {ys : Option (List D)} {S : Sto} : kExt (some (.lst xs)) l ys S = extO l xs ys S := rfl
theorem lExt_ok {l : Nat} {xs ys : List D} {S : Sto} (h : xs.length + ys.length ≤ sizeLine) : extO l xs (some ys) S = .ok .non (S.set l (.lst (xs ++ ys))) := if_pos h
end MP

set_option Elab.async false
set_option linter.all false
set_option maxRecDepth 100000
set_option maxHeartbeats 4000000
namespace MP
open PySem L2
section
variable {X : Cx} {G : Ga} {W : WX} {k : Nat}
/-! ### d.pop(k), the key is there -/
def dPop (o i : D) (S : Sto) : Res D := match o, keyD i with
  | .loc l, some k => match S[l]? with
    | some (.dct false kvs) => match valD kvs k with
      | some x => .ok x (S.set l (.dct false (dropD kvs k)))
      | none => .stuck
    | _ => .stuck
  | _, _ => .stuck
def mDPop (mo mi : MEx) : MEx := fun ρ S => (mo ρ S).bind fun o S1 => if (dctO S1 o).isSome = true then (mi ρ S1).bind fun i S2 => dPop o i S2 else .stuck
theorem d_dpop {o e : Expr} {mo mi : MEx} {apos cpos : Pos} (ho : PE X o (wpE X.K G W mo)) (he : PE X e (wpE X.K G W mi)) (m : M1 X o "pop" apos e cpos := by exact ⟨rfl, rfl, rfl, rfl⟩) :
    PE X (.Call (.Attribute o "pop" apos) [e] [] cpos) (wpE X.K G W (mDPop mo mi)) := by
  refine pe_conv (pe_dpop1 ho he m) ?_
  rintro σ H Q ⟨φ, ρ, S, em, rs, h⟩
  refine ⟨φ, ρ, S, em, rs, h.bind fun x S1 φ1 v1 H1 x1 em1 r1 h1 => ?_⟩
  split at h1
  · rename_i hd
    obtain ⟨kvs, es⟩ := Option.isSome_iff_exists.mp hd
    obtain ⟨a, vs, rfl, rd, rk⟩ := dct_ok em1 r1 es
    refine ⟨a, rfl, .inl ⟨_, rd⟩, φ1, ρ, S1, em1, rs.ext x1, h1.bind fun y S2 φ2 v2 H2 x2 em2 r2 h2 => ?_⟩
    have r1' := RV.ext x2 r1
    unfold dPop at h2
    split at h2
    · rename_i l k hk
      split at h2
      · rename_i kvs2 es2
        split at h2
        · rename_i z ez
          obtain ⟨a', hr, ha, ro⟩ := em2.at_loc es2 r1'
          cases hr
          cases ro with
          | dct e1 rk2 =>
            rename_i vs2
            obtain ⟨w, ew, rw'⟩ := (rk2.val k).1 z ez
            have n1 : ∀ xs, HO.dK vs2 ≠ .tup xs := fun _ z => nomatch z
            have n2 : ∀ ob w, HO.dK vs2 ≠ .frz ob w := fun _ _ z => nomatch z
            have xa : Ext φ2 H2 φ2 (upd H2 a (.dK (dropK vs2 k))) := .at ha e1 n1 n2
            have em3 := em2.set (o := .dct false (dropD kvs2 k)) (ho := .dK (dropK vs2 k)) es2 ha e1 n1 n2 (.dct upd_same ((rk2.drop k).ext xa))
            exact ⟨vs2, k, w, e1, keyD_ok r2 hk, ew, h2 φ2 w _ xa em3 (RV.ext xa rw')⟩
        · exact h2.elim
      · exact h2.elim
    · exact h2.elim
  · exact h1.elim
/-! ### d == {}, d != {} -/
def dctU (S : Sto) (d : D) : Option (List (Key × D)) := match d with
  | .vd ks xs => some (ks.zip xs)
  | .loc l => match S[l]? with
    | some (.dct false kvs) => some kvs
    | _ => none
  | _ => none
theorem dctU_ok {K : PySem.W.Frag} {φ : List Addr} {S : Sto} {H : Hp} (em : Emb K G φ S H) {d : D} {v : V} {kvs : List (Key × D)} (r : RV K G H φ d v) (h : dctU S d = some kvs) : ∃ p vs, v = .ref p ∧ H p = some (.dK vs) ∧ RKs K G H φ id kvs vs := by
  unfold dctU at h
  split at h
  · cases h
    cases r with
    | vd n q e s p => exact ⟨_, _, rfl, q, RKs.zip (by rw [e, List.map_id]) s⟩
  · split at h
    · rename_i ys e
      cases h
      obtain ⟨a, rfl, _, ro⟩ := em.at_loc e r
      cases ro with
      | dct e1 rk => exact ⟨_, _, rfl, e1, rk⟩
    · cases h
  · cases h
def rDE (neg : Bool) : R2 := fun x y H Q => ∃ a b ks ls, x = .ref a ∧ y = .ref b ∧ H a = some (.dK ks) ∧ H b = some (.dK ls) ∧ (ks = [] ∨ ks.length ≠ ls.length) ∧ Q (.bl (if neg = true then !decide (ks.length = ls.length) else decide (ks.length = ls.length))) H
theorem op_deq (d : DX X G W k) : OpR X (compareOp .Eq) (rDE false) := by
  intro pins s σ H x y v u Q I rx ry h
  obtain ⟨a, b, ks, ls, rfl, rfl, ea, eb, hc, q⟩ := h
  obtain rfl : v = Value.ref a := rx
  obtain rfl : u = Value.ref b := ry
  obtain ⟨_, ya, va, ra, da⟩ := (show ObjOk X.prog X.w H s.heap a (.dK ks) from I.hok a _ ea)
  obtain ⟨_, yb, vb, rb, db⟩ := (show ObjOk X.prog X.w H s.heap b (.dK ls) from I.hok b _ eb)
  have la : ks.length = va.length := ra.length
  have lb : ls.length = vb.length := rb.length
  refine PySem.W.keq_eq (knd := mixKind X.prog X.w) (r := true) ya yb da db (by have := d.hr.units; omega) (fun e => ?_) (fin_bl I q (by rw [la, lb]; simp; rfl))
  rcases hc with z | z
  · subst z
    exact hits_all rb ra (fun p hp => absurd hp (List.not_mem_nil))
  · exact absurd (by omega) z
theorem op_dne (d : DX X G W k) : OpR X (compareOp .NotEq) (rDE true) := by
  intro pins s σ H x y v u Q I rx ry h
  obtain ⟨a, b, ks, ls, rfl, rfl, ea, eb, hc, q⟩ := h
  obtain rfl : v = Value.ref a := rx
  obtain rfl : u = Value.ref b := ry
  obtain ⟨_, ya, va, ra, da⟩ := (show ObjOk X.prog X.w H s.heap a (.dK ks) from I.hok a _ ea)
  obtain ⟨_, yb, vb, rb, db⟩ := (show ObjOk X.prog X.w H s.heap b (.dK ls) from I.hok b _ eb)
  have la : ks.length = va.length := ra.length
  have lb : ls.length = vb.length := rb.length
  refine PySem.W.keq_ne (knd := mixKind X.prog X.w) (r := true) ya yb da db (by have := d.hr.units; omega) (fun e => ?_) (fin_bl I q (by rw [la, lb]; simp; rfl))
  rcases hc with z | z
  · subst z
    exact hits_all rb ra (fun p hp => absurd hp (List.not_mem_nil))
  · exact absurd (by omega) z
def deO (neg : Bool) (a b : Option (List (Key × D))) (S : Sto) : Res D := match a, b with
  | some ks, some ls => if ks = [] ∨ ks.length ≠ ls.length then .ok (.bl (if neg = true then !decide (ks.length = ls.length) else decide (ks.length = ls.length))) S else .stuck
  | _, _ => .stuck
def dEqE (neg : Bool) (x y : D) (S : Sto) : Res D := deO neg (dctU S x) (dctU S y) S
theorem s_de {K : PySem.W.Frag} {neg : Bool} : OpS K G W (dEqE neg) (rDE neg) := by
  intro φ S σ H d1 d2 v1 v2 Q em r1 r2 h
  unfold dEqE deO at h
  split at h
  · rename_i ks ls e1 e2
    split at h
    · rename_i hc
      obtain ⟨p, vs, rfl, hp, rk⟩ := dctU_ok em r1 e1
      obtain ⟨q, us, rfl, hq, rk2⟩ := dctU_ok em r2 e2
      have la := rk.length
      have lb := rk2.length
      refine ⟨p, q, vs, us, rfl, rfl, hp, hq, ?_, by rw [← la, ← lb]; exact outR.ok (R := rE K G) h em .bl⟩
      rcases hc with z | z
      · left
        subst z
        exact List.length_eq_zero_iff.mp la.symm
      · right; omega
    · exact h.elim
  · exact h.elim
/-! ### powers of wide numbers -/
def CPowW (i j : Int) : Prop := 0 ≤ j ∧ (Builtin.Int.intBits i : Int) * j ≤ 2 ^ 27
theorem op_powW : OpR X (binaryOp .Pow) (rI CPowW fun i j => .int (i ^ j.toNat)) := opI fun _ _ _ _ _ _ _ hc q => PyProof.Rows.pow_int hc.1 hc.2 q
def powWI (i j : Int) : Option Int := if 0 ≤ j ∧ (Builtin.Int.intBits i : Int) * j ≤ 2 ^ 27 then some (i ^ j.toNat) else none
theorem s_powW {K : PySem.W.Frag} : OpS K G W (intOp powWI) (rI CPowW fun i j => .int (i ^ j.toNat)) := s_int fun _ _ _ e => by
  unfold powWI at e
  split at e
  · rename_i h
    exact ⟨h, (Option.some.inj e).symm⟩
  · cases e
end
theorem powW_int {i j : Int} {S : Sto} (h : 0 ≤ j ∧ (Builtin.Int.intBits i : Int) * j ≤ 2 ^ 27) : intOp powWI (.int i) (.int j) S = .ok (.int (i ^ j.toNat)) S := by
  unfold intOp powWI; simp only [if_pos h]
/-! ### how they step -/
def kDPop1 (r : Res D) (mi : MEx) (ρ : Rho) : Res D := r.bind fun o S1 => if (dctO S1 o).isSome = true then (mi ρ S1).bind fun i S2 => dPop o i S2 else .stuck
def kDPop2 (o : D) (r : Res D) : Res D := r.bind fun i S2 => dPop o i S2
def kDPop3 (a : Option O) (k : Key) (l : Nat) (S : Sto) : Res D := match a with
  | some (.dct false kvs) => (match valD kvs k with
      | some x => .ok x (S.set l (.dct false (dropD kvs k)))
      | none => .stuck)
  | _ => .stuck
theorem r_dpop {mo mi : MEx} {ρ : Rho} {S : Sto} : mDPop mo mi ρ S = kDPop1 (mo ρ S) mi ρ := rfl
theorem kDPop1_ok {mi : MEx} {ρ : Rho} {S : Sto} {o : D} (h : (dctO S o).isSome = true) : kDPop1 (.ok o S) mi ρ = kDPop2 o (mi ρ S) := if_pos h
theorem kDPop2_i {l : Nat} {i : Int} {S : Sto} : kDPop2 (.loc l) (.ok (.int i) S) = kDPop3 S[l]? (.inl i) l S := by
  (show dPop (.loc l) (.int i) S = _; simp only [dPop, keyD, kDPop3]) <;> (generalize S[l]? = o; rcases o with _ | _ | ⟨_ | _, _⟩ | _ <;> rfl)
theorem kDPop3_ok {kvs : List (Key × D)} {k : Key} {x : D} {l : Nat} {S : Sto} (h : valD kvs k = some x) : kDPop3 (some (.dct false kvs)) k l S = .ok x (S.set l (.dct false (dropD kvs k))) := by
  unfold kDPop3
  simp only [h]
def kDU (o : Option O) : Option (List (Key × D)) := match o with
  | some (.dct false kvs) => some kvs
  | _ => none
theorem r_dctU {l : Nat} {S : Sto} : dctU S (.loc l) = kDU S[l]? := by
  (unfold dctU kDU; dsimp only) <;> (generalize S[l]? = o; rcases o with _ | _ | ⟨_ | _, _⟩ | _ <;> rfl)
theorem dctU_vd {ks : List Key} {xs : List D} {S : Sto} : dctU S (.vd ks xs) = some (ks.zip xs) := rfl
theorem kDU_ok {kvs : List (Key × D)} : kDU (some (.dct false kvs)) = some kvs := rfl
theorem r_de {neg : Bool} {x y : D} {S : Sto} : dEqE neg x y S = deO neg (dctU S x) (dctU S y) S := rfl
theorem deO_ok {neg : Bool} {ks : List (Key × D)} {S : Sto} : deO neg (some ks) (some []) S = .ok (.bl (if neg = true then !ks.isEmpty else ks.isEmpty)) S := by
  unfold deO
  cases ks with
  | nil => cases neg <;> rfl
  | cons a t =>
    dsimp only
    rw [if_pos (.inr (by simp))]
    cases neg <;> simp
end MP

set_option Elab.async false
set_option linter.all false
set_option maxRecDepth 100000
set_option maxHeartbeats 4000000
namespace MP
open PySem L2
section
variable {X : Cx} {G : Ga} {W : WX} {k : Nat}
/-! ### a dict is locked while an expression, a statement runs -/
def unlE (l : Nat) (r : Res D) : Res D := match r with
  | .ok d S => match S[l]? with
    | some (.dct true kvs) => .ok d (S.set l (.dct false kvs))
    | _ => .stuck
  | _ => .stuck
def mLk (mo m : MEx) : MEx := fun ρ S => match mo ρ S with
  | .ok (.loc l) _ => match S[l]? with
    | some (.dct false kvs) => unlE l (m ρ (S.set l (.dct true kvs)))
    | _ => .stuck
  | _ => .stuck
def sLk (mo : MEx) (b : MSt) : MSt := fun ρ S => match mo ρ S with
  | .ok (.loc l) _ => match S[l]? with
    | some (.dct false kvs) => unl l (b ρ (S.set l (.dct true kvs)))
    | _ => .stuck
  | _ => .stuck
theorem lock_in {K : PySem.W.Frag} {φ : List Addr} {S : Sto} {H : Hp} {l : Nat} {kvs : List (Key × D)} (em : Emb K G φ S H) (es : S[l]? = some (.dct false kvs)) :
    ∃ a vs, φ[l]? = some a ∧ H a = some (.dK vs) ∧ ∀ od, Ext φ H φ (upd H a (.frz od (.dK vs))) ∧ Emb K G φ (S.set l (.dct true kvs)) (upd H a (.frz od (.dK vs))) := by
  obtain ⟨a, ha, ro⟩ := em.addr es
  cases ro with
  | dct e1 rk =>
    rename_i vs
    have n1 : ∀ xs, HO.dK vs ≠ .tup xs := fun _ z => nomatch z
    have n2 : ∀ ob w, HO.dK vs ≠ .frz ob w := fun _ _ z => nomatch z
    refine ⟨a, vs, ha, e1, fun od => ?_⟩
    have xa : Ext φ H φ (upd H a (.frz od (.dK vs))) := .at ha e1 n1 n2
    exact ⟨xa, em.set (o := .dct true kvs) (ho := .frz od (.dK vs)) es ha e1 n1 n2 (.dctF upd_same (rk.ext xa))⟩
theorem d_lock {e : Expr} {m : MEx} (mo : MEx) (h : PE X e (wpE X.K G W m)) : PE X e (wpE X.K G W (mLk mo m)) := by
  refine pe_conv (pe_lock h) ?_
  rintro σ H Q ⟨φ, ρ, S, em, rs, h⟩
  unfold mLk at h
  split at h
  · split at h
    · rename_i l S0 e0 _ kvs es
      obtain ⟨a, vs, ha, e1, hx⟩ := lock_in em es
      refine ⟨a, .dK vs, e1, True.intro, fun od => ?_⟩
      obtain ⟨xa, em2⟩ := hx od
      refine ⟨φ, ρ, _, em2, rs.ext xa, ?_⟩
      cases q : m ρ (S.set l (.dct true kvs)) with
      | ok d' S' =>
        rw [q] at h
        simp only [unlE] at h
        split at h
        · rename_i kvs' es'
          intro φ' v' H' x' em' rv'
          have hz := x'.2.frz a od _ upd_same
          exact ⟨hz, h φ' v' _ (Ext.around ha e1 x') (em'.unlock es' (pre_get x'.1 ha) hz) (rv'.wk (wk_unlock (pre_get x'.1 ha) hz))⟩
        · exact h.elim
      | exc e S' => rw [q] at h; exact h.elim
      | stuck => rw [q] at h; exact h.elim
    · exact h.elim
  · exact h.elim
theorem s_lock {st : Stmt} {b : MSt} (mo : MEx) (h : PS X st (wpS X.K G W b)) : PS X st (wpS X.K G W (sLk mo b)) := by
  refine ps_conv (ps_lock h) ?_
  rintro D σ H ⟨φ, ρ, S, em, rs, h⟩
  unfold sLk at h
  split at h
  · split at h
    · rename_i l S0 e0 _ kvs es
      obtain ⟨a, vs, ha, e1, hx⟩ := lock_in em es
      refine ⟨a, .dK vs, e1, True.intro, fun od => ?_⟩
      obtain ⟨xa, em2⟩ := hx od
      refine ⟨φ, ρ, _, em2, rs.ext xa, ?_⟩
      cases q : b ρ (S.set l (.dct true kvs)) with
      | nx ρ' S' =>
        rw [q] at h
        simp only [unl] at h
        split at h
        · rename_i kvs' es'
          intro φ' σ' H' x' em' rs'
          have hz := x'.2.frz a od _ upd_same
          exact ⟨hz, h φ' σ' _ (Ext.around ha e1 x') (em'.unlock es' (pre_get x'.1 ha) hz) (rs'.wk (wk_unlock (pre_get x'.1 ha) hz))⟩
        · exact h.elim
      | rt d' S' =>
        rw [q] at h
        simp only [unl] at h
        split at h
        · rename_i kvs' es'
          intro φ' v' H' x' em' rv'
          have hz := x'.2.frz a od _ upd_same
          exact ⟨hz, h φ' v' _ (Ext.around ha e1 x') (em'.unlock es' (pre_get x'.1 ha) hz) (rv'.wk (wk_unlock (pre_get x'.1 ha) hz))⟩
        · exact h.elim
      | bk ρ' S' => rw [q] at h; exact h.elim
      | ct ρ' S' => rw [q] at h; exact h.elim
      | xc e ρ' S' => rw [q] at h; exact h.elim
      | stuck => rw [q] at h; exact h.elim
    · exact h.elim
  · exact h.elim
/-! ### frozen for good -/
theorem pe_frz {e : Expr} {t : TE} (h : PE X e t) : PE X e (fun σ H Q => t σ H fun v H1 => ∃ d u, v = .ref d ∧ H1 d = some u ∧ Mut (some u) ∧ ∀ od, Q v (upd H1 d (.frz od u))) := by
  refine ⟨fun pins s σ H Q I hw => thn (h.run pins s σ H _ I hw) fun v s1 ⟨x, H1, I1, r, d, u, ex, hd, mu, q⟩ => ?_⟩
  obtain ⟨od, I2⟩ := I1.lock hd mu
  exact ⟨x, _, I2, r, q od⟩
def frzD (d : D) (S : Sto) : Res D := match d with
  | .loc l => match S[l]? with
    | some (.dct false kvs) => .ok (.loc l) (S.set l (.dct true kvs))
    | _ => .stuck
  | _ => .stuck
def mFrz (m : MEx) : MEx := fun ρ S => (m ρ S).bind frzD
theorem d_frz {e : Expr} {m : MEx} (h : PE X e (wpE X.K G W m)) : PE X e (wpE X.K G W (mFrz m)) := by
  refine pe_conv (pe_frz h) ?_
  rintro σ H Q ⟨φ, ρ, S, em, rs, h⟩
  refine ⟨φ, ρ, S, em, rs, h.bind fun d S1 φ1 v H1 x1 em1 rv h1 => ?_⟩
  unfold frzD at h1
  split at h1
  · split at h1
    · rename_i l kvs es
      obtain ⟨a, vs, ha, e1, hx⟩ := lock_in em1 es
      obtain ⟨a', rfl, ha', _⟩ := em1.at_loc es rv
      have : a' = a := by rw [ha] at ha'; cases ha'; rfl
      subst this
      refine ⟨a', .dK vs, rfl, e1, True.intro, fun od => ?_⟩
      obtain ⟨xa, em2⟩ := hx od
      exact h1 φ1 _ _ xa em2 (RV.ext xa rv)
    · exact h1.elim
  · exact h1.elim
/-! ### the values, the pairs of a locked dict -/
def vaGet (l : Nat) : Nat → Sto → Option (Option D) := fun i S => match S[l]? with
  | some (.dct true kvs) => some (kvs[i]?.map (·.2))
  | _ => none
def iiGet (l : Nat) : Nat → Sto → Option (Option D) := fun i S => match S[l]? with
  | some (.dct true kvs) => some (kvs[i]?.map fun kv => .tup [keyOf kv.1, kv.2])
  | _ => none
def itV (d : D) (S : Sto) : Option MIt := match d with
  | .loc l => match S[l]? with
    | some (.dct true kvs) => some ⟨vaGet l, kvs.length + 1⟩
    | _ => none
  | _ => none
def itI (d : D) (S : Sto) : Option MIt := match d with
  | .loc l => match S[l]? with
    | some (.dct true kvs) => some ⟨iiGet l, kvs.length + 1⟩
    | _ => none
  | _ => none
def miV (m : MEx) : MIx := fun ρ S => (m ρ S).it itV
def miI (m : MEx) : MIx := fun ρ S => (m ρ S).it itI
theorem key_rv {K : PySem.W.Frag} {H : Hp} {φ : List Addr} (k : Key) : RV K G H φ (keyOf k) (kV k) := by cases k <;> constructor
theorem it_vals {K : PySem.W.Frag} {l m : Nat} {φ0 : List Addr} {H0 : Hp} {a : Addr} {o : Obj} {vs : List (Key × V)} (ha : φ0[l]? = some a) (h0 : H0 a = some (.frz o (.dK vs))) : ItOk K G ⟨vaGet l, m⟩ (Itd a o vs) φ0 H0 := by
  intro i φ S H x em
  show match vaGet l i S with | none => True | some none => _ | some (some d) => _
  have ha' := pre_get x.1 ha
  have h' := x.2.frz a o _ h0
  unfold vaGet
  cases es : S[l]? with
  | none => trivial
  | some ob =>
    cases ob with
    | lst _ => trivial
    | ins _ _ => trivial
    | dct fz kvs =>
      cases fz with
      | false => trivial
      | true =>
        have ro := em.ob l _ a es ha'
        cases ro with
        | dctF e1 rk =>
          rw [h'] at e1
          cases e1
          dsimp only
          cases ek : kvs[i]? with
          | none => exact ⟨h', by rw [← rk.length]; exact List.getElem?_eq_none_iff.mp ek⟩
          | some kv =>
            obtain ⟨k, d⟩ := kv
            obtain ⟨v, ev, rv⟩ := rk.get ek
            refine ⟨⟨h', (List.getElem?_eq_some_iff.mp ev).1⟩, ?_⟩
            rintro y H' ⟨rfl, k', e2⟩
            rw [ev] at e2
            cases e2
            exact ⟨.refl, em, rv⟩
theorem it_its {K : PySem.W.Frag} {l m : Nat} {φ0 : List Addr} {H0 : Hp} {a : Addr} {o : Obj} {vs : List (Key × V)} (ha : φ0[l]? = some a) (h0 : H0 a = some (.frz o (.dK vs))) : ItOk K G ⟨iiGet l, m⟩ (Iti a o vs) φ0 H0 := by
  intro i φ S H x em
  show match iiGet l i S with | none => True | some none => _ | some (some d) => _
  have ha' := pre_get x.1 ha
  have h' := x.2.frz a o _ h0
  unfold iiGet
  cases es : S[l]? with
  | none => trivial
  | some ob =>
    cases ob with
    | lst _ => trivial
    | ins _ _ => trivial
    | dct fz kvs =>
      cases fz with
      | false => trivial
      | true =>
        have ro := em.ob l _ a es ha'
        cases ro with
        | dctF e1 rk =>
          rw [h'] at e1
          cases e1
          dsimp only
          cases ek : kvs[i]? with
          | none => exact ⟨h', by rw [← rk.length]; exact List.getElem?_eq_none_iff.mp ek⟩
          | some kv =>
            obtain ⟨k, d⟩ := kv
            obtain ⟨v, ev, rv⟩ := rk.get ek
            refine ⟨⟨h', (List.getElem?_eq_some_iff.mp ev).1⟩, ?_⟩
            rintro y H' ⟨T, k', v', e2, rfl, hT, rfl⟩
            rw [ev] at e2
            cases e2
            exact ⟨.other hT, em.other hT, .tup (.inl (.inl upd_same)) (.cons (key_rv _) (.cons (rv.ext (.other hT)) .nil))⟩
theorem i_vals {tg e : Expr} {apos cpos : Pos} {m : MEx} (he : PE X e (wpE X.K G W m)) (hbase : attributeBase e "values" X.env (eval e X.env) = eval e X.env := by rfl) (hline : (apos.endLine == cpos.line) = true := by rfl) :
    PI X tg (.Call (.Attribute e "values" apos) [] [] cpos) (wpI X.K G W (miV m)) := by
  refine pi_conv (pi_values he hbase hline) ?_
  rintro σ H R ⟨φ, ρ, S, em, rs, h⟩
  refine ⟨φ, ρ, S, em, rs, ?_⟩
  unfold miV Res.it at h
  cases q : m ρ S with
  | stuck => rw [q] at h; exact h
  | exc e S' => rw [q] at h; exact h
  | ok d S1 =>
    rw [q] at h
    intro φ1 v H1 x1 em1 rv
    simp only [Res.bind_ok] at h
    unfold itV at h
    split at h
    · rename_i it S2 hh
      split at hh
      · rename_i it' e1
        split at e1
        · rename_i l
          split at e1
          · rename_i kvs es
            cases e1
            cases hh
            obtain ⟨a, rfl, ha, ro⟩ := em1.at_loc es rv
            cases ro with
            | dctF e2 rk => exact ⟨a, _, _, rfl, e2, h φ1 _ H1 x1 em1 (it_vals ha e2)⟩
          · cases e1
        · cases e1
      · cases hh
    · rename_i hh; split at hh <;> cases hh
    · exact h.elim
theorem i_its {elts : List Expr} {kk : Nat} {tpos : Pos} {e : Expr} {apos cpos : Pos} {m : MEx} (he : PE X e (wpE X.K G W m)) (hbase : attributeBase e "items" X.env (eval e X.env) = eval e X.env := by rfl) (hline : (apos.endLine == cpos.line) = true := by rfl) :
    PI X (.Tuple elts kk tpos) (.Call (.Attribute e "items" apos) [] [] cpos) (wpI X.K G W (miI m)) := by
  refine pi_conv (pi_items he hbase hline) ?_
  rintro σ H R ⟨φ, ρ, S, em, rs, h⟩
  refine ⟨φ, ρ, S, em, rs, ?_⟩
  unfold miI Res.it at h
  cases q : m ρ S with
  | stuck => rw [q] at h; exact h
  | exc e S' => rw [q] at h; exact h
  | ok d S1 =>
    rw [q] at h
    intro φ1 v H1 x1 em1 rv
    simp only [Res.bind_ok] at h
    unfold itI at h
    split at h
    · rename_i it S2 hh
      split at hh
      · rename_i it' e1
        split at e1
        · rename_i l
          split at e1
          · rename_i kvs es
            cases e1
            cases hh
            obtain ⟨a, rfl, ha, ro⟩ := em1.at_loc es rv
            cases ro with
            | dctF e2 rk => exact ⟨a, _, _, rfl, e2, h φ1 _ H1 x1 em1 (it_its ha e2)⟩
          · cases e1
        · cases e1
      · cases hh
    · rename_i hh; split at hh <;> cases hh
    · exact h.elim
/-! ### d.get(k), d.get(k, x), d.pop(k, x), dict(d) -/
def getO (o : Option (List (Key × D))) (k : Option Key) (z : D) (S : Sto) : Res D := match o, k with
  | some kvs, some k => .ok ((valD kvs k).getD z) S
  | _, _ => .stuck
def mDGet1 (mo mi : MEx) : MEx := fun ρ S => (mo ρ S).bind fun o S1 => if (dctO S1 o).isSome = true then (mi ρ S1).bind fun i S2 => getO (dctO S2 o) (keyD i) .non S2 else .stuck
def mDGet2 (mo mi mz : MEx) : MEx := fun ρ S => (mo ρ S).bind fun o S1 => if (dctO S1 o).isSome = true then (mi ρ S1).bind fun i S2 => (mz ρ S2).bind fun z S3 => getO (dctO S3 o) (keyD i) z S3 else .stuck
theorem RKs.get_ {K : PySem.W.Frag} {H : Hp} {φ : List Addr} {kvs : List (Key × D)} {vs : List (Key × V)} (r : RKs K G H φ id kvs vs) (k : Key) {z : D} {y : V} (rz : RV K G H φ z y) : RV K G H φ ((valD kvs k).getD z) ((valV vs k).getD y) := by
  cases e : valD kvs k with
  | none => rw [(r.val k).2 e]; exact rz
  | some d =>
    obtain ⟨v, e2, rv⟩ := (r.val k).1 d e
    rw [e2]; exact rv
theorem d_dget1 {o e : Expr} {mo mi : MEx} {apos cpos : Pos} (d : DX X G W k) (ho : PE X o (wpE X.K G W mo)) (he : PE X e (wpE X.K G W mi)) (m : M1 X o "get" apos e cpos := by exact ⟨rfl, rfl, rfl, rfl⟩) :
    PE X (.Call (.Attribute o "get" apos) [e] [] cpos) (wpE X.K G W (mDGet1 mo mi)) := by
  refine pe_conv (pe_dget1 (by have := d.hr.units; omega) ho he m) ?_
  rintro σ H Q ⟨φ, ρ, S, em, rs, h⟩
  refine ⟨φ, ρ, S, em, rs, h.bind fun x S1 φ1 v1 H1 x1 em1 r1 h1 => ?_⟩
  split at h1
  · rename_i hd
    obtain ⟨kvs, es⟩ := Option.isSome_iff_exists.mp hd
    obtain ⟨a, vs, rfl, rd, rk⟩ := dct_ok em1 r1 es
    refine ⟨a, rfl, .inl ⟨_, rd⟩, φ1, ρ, S1, em1, rs.ext x1, h1.bind fun y S2 φ2 v2 H2 x2 em2 r2 h2 => ?_⟩
    unfold getO at h2
    split at h2
    · rename_i kvs2 k es2 hk
      obtain ⟨a', vs2, hr, rd2, rk2⟩ := dct_ok em2 (RV.ext x2 r1) es2
      cases hr
      exact ⟨_, .inl ⟨vs2, k, rd2, keyD_ok r2 hk, rfl⟩, outR.ok (R := rE X.K G) h2 em2 (rk2.get_ k .non)⟩
    · exact h2.elim
  · exact h1.elim
theorem d_dget2 {o e f : Expr} {mo mi mz : MEx} {apos cpos : Pos} (d : DX X G W k) (ho : PE X o (wpE X.K G W mo)) (he : PE X e (wpE X.K G W mi)) (hf : PE X f (wpE X.K G W mz)) (m : M2 X o "get" apos e f cpos := by exact ⟨rfl, rfl, rfl, rfl⟩) :
    PE X (.Call (.Attribute o "get" apos) [e, f] [] cpos) (wpE X.K G W (mDGet2 mo mi mz)) := by
  refine pe_conv (pe_dget2 (by have := d.hr.units; omega) ho he hf m) ?_
  rintro σ H Q ⟨φ, ρ, S, em, rs, h⟩
  refine ⟨φ, ρ, S, em, rs, h.bind fun x S1 φ1 v1 H1 x1 em1 r1 h1 => ?_⟩
  split at h1
  · rename_i hd
    obtain ⟨kvs, es⟩ := Option.isSome_iff_exists.mp hd
    obtain ⟨a, vs, rfl, rd, rk⟩ := dct_ok em1 r1 es
    refine ⟨a, rfl, .inl ⟨_, rd⟩, φ1, ρ, S1, em1, rs.ext x1, h1.bind fun y S2 φ2 v2 H2 x2 em2 r2 h2 => ?_⟩
    refine ⟨φ2, ρ, S2, em2, (rs.ext x1).ext x2, h2.bind fun z S3 φ3 v3 H3 x3 em3 r3 h3 => ?_⟩
    unfold getO at h3
    split at h3
    · rename_i kvs2 k es2 hk
      obtain ⟨a', vs2, hr, rd2, rk2⟩ := dct_ok em3 (RV.ext x3 (RV.ext x2 r1)) es2
      cases hr
      exact ⟨_, .inl ⟨vs2, k, rd2, keyD_ok (RV.ext x3 r2) hk, rfl⟩, outR.ok (R := rE X.K G) h3 em3 (rk2.get_ k r3)⟩
    · exact h3.elim
  · exact h1.elim
def dPop2 (o i z : D) (S : Sto) : Res D := match o, keyD i with
  | .loc l, some k => match S[l]? with
    | some (.dct false kvs) => match valD kvs k with
      | some x => .ok x (S.set l (.dct false (dropD kvs k)))
      | none => .ok z S
    | _ => .stuck
  | _, _ => .stuck
def mDPop2 (mo mi mz : MEx) : MEx := fun ρ S => (mo ρ S).bind fun o S1 => if (dctO S1 o).isSome = true then (mi ρ S1).bind fun i S2 => (mz ρ S2).bind fun z S3 => dPop2 o i z S3 else .stuck
theorem d_dpop2 {o e f : Expr} {mo mi mz : MEx} {apos cpos : Pos} (ho : PE X o (wpE X.K G W mo)) (he : PE X e (wpE X.K G W mi)) (hf : PE X f (wpE X.K G W mz)) (m : M2 X o "pop" apos e f cpos := by exact ⟨rfl, rfl, rfl, rfl⟩) :
    PE X (.Call (.Attribute o "pop" apos) [e, f] [] cpos) (wpE X.K G W (mDPop2 mo mi mz)) := by
  refine pe_conv (pe_dpop2 ho he hf m) ?_
  rintro σ H Q ⟨φ, ρ, S, em, rs, h⟩
  refine ⟨φ, ρ, S, em, rs, h.bind fun x S1 φ1 v1 H1 x1 em1 r1 h1 => ?_⟩
  split at h1
  · rename_i hd
    obtain ⟨kvs, es⟩ := Option.isSome_iff_exists.mp hd
    obtain ⟨a, vs, rfl, rd, rk⟩ := dct_ok em1 r1 es
    refine ⟨a, rfl, .inl ⟨_, rd⟩, φ1, ρ, S1, em1, rs.ext x1, h1.bind fun y S2 φ2 v2 H2 x2 em2 r2 h2 => ?_⟩
    refine ⟨φ2, ρ, S2, em2, (rs.ext x1).ext x2, h2.bind fun z S3 φ3 v3 H3 x3 em3 r3 h3 => ?_⟩
    have r1' := RV.ext x3 (RV.ext x2 r1)
    unfold dPop2 at h3
    split at h3
    · rename_i l k hk
      split at h3
      · rename_i kvs2 es2
        obtain ⟨a', hr, ha, ro⟩ := em3.at_loc es2 r1'
        cases hr
        cases ro with
        | dct e1 rk2 =>
          rename_i vs2
          refine ⟨vs2, k, e1, keyD_ok (RV.ext x3 r2) hk, fun w ew => ?_, fun en => ?_⟩
          · split at h3
            · rename_i z' ez
              obtain ⟨w', ew', rw'⟩ := (rk2.val k).1 z' ez
              rw [ew] at ew'
              cases ew'
              have n1 : ∀ xs, HO.dK vs2 ≠ .tup xs := fun _ z => nomatch z
              have n2 : ∀ ob w, HO.dK vs2 ≠ .frz ob w := fun _ _ z => nomatch z
              have xa : Ext φ3 H3 φ3 (upd H3 a (.dK (dropK vs2 k))) := .at ha e1 n1 n2
              have em4 := em3.set (o := .dct false (dropD kvs2 k)) (ho := .dK (dropK vs2 k)) es2 ha e1 n1 n2 (.dct upd_same ((rk2.drop k).ext xa))
              exact h3 φ3 w _ xa em4 (RV.ext xa rw')
            · rename_i ez
              rw [(rk2.val k).2 ez] at ew
              cases ew
          · split at h3
            · rename_i z' ez
              obtain ⟨w', ew', _⟩ := (rk2.val k).1 z' ez
              rw [en] at ew'
              cases ew'
            · exact outR.ok (R := rE X.K G) h3 em3 r3
      · exact h3.elim
    · exact h3.elim
  · exact h1.elim
def dictO (tr : Bool) (o : Option (List (Key × D))) (S : Sto) : Res D := match o with
  | some kvs => if tr = true then .ok (.loc S.length) (S ++ [.dct false kvs]) else if pureAll (kvs.map (·.2)) = true then .ok (.vd (kvs.map (·.1)) (kvs.map (·.2))) S else .stuck
  | none => .stuck
def cDict (tr : Bool) (ds : List D) (S : Sto) : Res D := match ds with
  | [d] => dictO tr (dctO S d) S
  | _ => .stuck
theorem s_dict {K : PySem.W.Frag} {tr : Bool} : CallS K G W (cDict tr) (fun xs H Q => ∃ (a : Addr) (kvs : List (Key × V)), xs = [.ref a] ∧ Rd H a (.dK kvs) ∧ ∀ p, H p = none → Q (.ref p) (upd H p (.dK kvs))) := by
  intro φ S σ H ds vs Q em r h
  unfold cDict at h
  split at h
  · rename_i d
    unfold dictO at h
    split at h
    · rename_i kvs es
      cases r with
      | cons r1 r2 =>
        cases r2
        obtain ⟨a, us, rfl, rd, rk⟩ := dct_ok em r1 es
        refine ⟨a, us, rfl, rd, fun p hp => ?_⟩
        split at h
        · refine h (φ ++ [p]) (.ref p) _ (.new hp) (em.new hp (.dct upd_same (rk.ext (.new hp)))) (.loc ?_)
          rw [← em.len]
          simp
        · split at h
          · rename_i pp
            have hnp : p ∉ φ := fun z => by
              obtain ⟨u, z⟩ := em.there z
              rw [hp] at z; cases z
            exact h φ (.ref p) _ (.other hp) (em.other hp) (.vd hnp upd_same (by have := rk.keys; simpa using this) ((rk.ext (.other hp)).vals) pp)
          · exact h.elim
    · exact h.elim
  · exact h.elim
end
end MP

set_option Elab.async false
set_option linter.all false
set_option maxRecDepth 100000
set_option maxHeartbeats 4000000
namespace MP
open PySem L2
/-! ### steps of the locks -/
section
variable {m mo mi mz : MEx} {b : MSt} {ρ : Rho} {S S' : Sto} {l : Nat} {kvs : List (Key × D)} {d x z : D}
def kSLkA (r : Res D) (b : MSt) (ρ : Rho) (S : Sto) : SR := match r with
  | .ok (.loc l) _ => match S[l]? with
    | some (.dct false kvs) => unl l (b ρ (S.set l (.dct true kvs)))
    | _ => .stuck
  | _ => .stuck
def kSLkB (o : Option O) (l : Nat) (b : MSt) (ρ : Rho) (S : Sto) : SR := match o with
  | some (.dct false kvs) => unl l (b ρ (S.set l (.dct true kvs)))
  | _ => .stuck
theorem r_slk : sLk mo b ρ S = kSLkA (mo ρ S) b ρ S := by unfold sLk kSLkA; rfl
theorem kSLkA_ok : kSLkA (.ok (.loc l) S') b ρ S = kSLkB S[l]? l b ρ S := by unfold kSLkA kSLkB; rfl
theorem kSLkB_ok : kSLkB (some (.dct false kvs)) l b ρ S = unl l (b ρ (S.set l (.dct true kvs))) := rfl
def kMLkA (r : Res D) (m : MEx) (ρ : Rho) (S : Sto) : Res D := match r with
  | .ok (.loc l) _ => match S[l]? with
    | some (.dct false kvs) => unlE l (m ρ (S.set l (.dct true kvs)))
    | _ => .stuck
  | _ => .stuck
def kMLkB (o : Option O) (l : Nat) (m : MEx) (ρ : Rho) (S : Sto) : Res D := match o with
  | some (.dct false kvs) => unlE l (m ρ (S.set l (.dct true kvs)))
  | _ => .stuck
theorem r_mlk : mLk mo m ρ S = kMLkA (mo ρ S) m ρ S := by unfold mLk kMLkA; rfl
theorem kMLkA_ok : kMLkA (.ok (.loc l) S') m ρ S = kMLkB S[l]? l m ρ S := by unfold kMLkA kMLkB; rfl
theorem kMLkB_ok : kMLkB (some (.dct false kvs)) l m ρ S = unlE l (m ρ (S.set l (.dct true kvs))) := rfl
def kUnlN (o : Option O) (l : Nat) (ρ : Rho) (S : Sto) : SR := match o with
  | some (.dct true kvs) => .nx ρ (S.set l (.dct false kvs))
  | _ => .stuck
def kUnlR (o : Option O) (l : Nat) (d : D) (S : Sto) : SR := match o with
  | some (.dct true kvs) => .rt d (S.set l (.dct false kvs))
  | _ => .stuck
def kUnlE (o : Option O) (l : Nat) (d : D) (S : Sto) : Res D := match o with
  | some (.dct true kvs) => .ok d (S.set l (.dct false kvs))
  | _ => .stuck
theorem r_unlN : unl l (.nx ρ S) = kUnlN S[l]? l ρ S := rfl
theorem r_unlR : unl l (.rt d S) = kUnlR S[l]? l d S := rfl
theorem r_unlE : unlE l (.ok d S) = kUnlE S[l]? l d S := rfl
theorem kUnlN_ok : kUnlN (some (.dct true kvs)) l ρ S = .nx ρ (S.set l (.dct false kvs)) := rfl
theorem kUnlR_ok : kUnlR (some (.dct true kvs)) l d S = .rt d (S.set l (.dct false kvs)) := rfl
theorem kUnlE_ok : kUnlE (some (.dct true kvs)) l d S = .ok d (S.set l (.dct false kvs)) := rfl
theorem r_frz : mFrz m ρ S = (m ρ S).bind frzD := rfl
def kFrz (o : Option O) (l : Nat) (S : Sto) : Res D := match o with
  | some (.dct false kvs) => .ok (.loc l) (S.set l (.dct true kvs))
  | _ => .stuck
theorem r_frzD : frzD (.loc l) S = kFrz S[l]? l S := by unfold frzD kFrz; rfl
theorem kFrz_ok : kFrz (some (.dct false kvs)) l S = .ok (.loc l) (S.set l (.dct true kvs)) := rfl
theorem r_itK : miK m ρ S = kItA (m ρ S) itK := rfl
theorem r_itV : miV m ρ S = kItA (m ρ S) itV := rfl
theorem r_itI : miI m ρ S = kItA (m ρ S) itI := rfl
def kItK (o : Option O) (g : Nat → Nat → Sto → Option (Option D)) (l : Nat) : Option MIt := match o with
  | some (.dct true kvs) => some ⟨g l, kvs.length + 1⟩
  | _ => none
theorem itK_l : itK (.loc l) S = kItK S[l]? kyGet l := by unfold itK kItK; rfl
theorem itV_l : itV (.loc l) S = kItK S[l]? vaGet l := by unfold itV kItK; rfl
theorem itI_l : itI (.loc l) S = kItK S[l]? iiGet l := by unfold itI kItK; rfl
theorem kItK_ok {g : Nat → Nat → Sto → Option (Option D)} : kItK (some (.dct true kvs)) g l = some ⟨g l, kvs.length + 1⟩ := rfl
theorem vaGet_ok {S : Sto} {l : Nat} {kvs : List (Key × D)} (h : S[l]? = some (.dct true kvs)) (i : Nat) : vaGet l i S = some ((kvs.map (·.2))[i]?) := by
  unfold vaGet; rw [h, List.getElem?_map]
theorem iiGet_ok {S : Sto} {l : Nat} {kvs : List (Key × D)} (h : S[l]? = some (.dct true kvs)) (i : Nat) : iiGet l i S = some ((kvs.map fun kv => D.tup [keyOf kv.1, kv.2])[i]?) := by
  unfold iiGet; rw [h, List.getElem?_map]
theorem for_ky {k : Nat} {t : Tg} {sb : MSt} : kFor (.ok ⟨kyGet l, k⟩ S) t sb ρ = forGo ⟨kyGet l, k⟩ t sb k 0 ρ S := rfl
theorem for_va {k : Nat} {t : Tg} {sb : MSt} : kFor (.ok ⟨vaGet l, k⟩ S) t sb ρ = forGo ⟨vaGet l, k⟩ t sb k 0 ρ S := rfl
theorem for_ii {k : Nat} {t : Tg} {sb : MSt} : kFor (.ok ⟨iiGet l, k⟩ S) t sb ρ = forGo ⟨iiGet l, k⟩ t sb k 0 ρ S := rfl
/-! steps of get, pop, dict -/
def kG1A (r : Res D) (mi : MEx) (ρ : Rho) : Res D := r.bind fun o S1 => if (dctO S1 o).isSome = true then (mi ρ S1).bind fun i S2 => getO (dctO S2 o) (keyD i) .non S2 else .stuck
def kG1B (o : D) (r : Res D) : Res D := r.bind fun i S2 => getO (dctO S2 o) (keyD i) .non S2
theorem r_dget1 : mDGet1 mo mi ρ S = kG1A (mo ρ S) mi ρ := rfl
theorem kG1A_ok {o : D} (h : (dctO S o).isSome = true) : kG1A (.ok o S) mi ρ = kG1B o (mi ρ S) := if_pos h
theorem kG1B_ok {o i : D} : kG1B o (.ok i S) = getO (dctO S o) (keyD i) .non S := rfl
theorem getO_ok {k : Key} : getO (some kvs) (some k) z S = .ok ((valD kvs k).getD z) S := rfl
def kG2A (r : Res D) (mi mz : MEx) (ρ : Rho) : Res D := r.bind fun o S1 => if (dctO S1 o).isSome = true then (mi ρ S1).bind fun i S2 => (mz ρ S2).bind fun z S3 => getO (dctO S3 o) (keyD i) z S3 else .stuck
def kG2B (o : D) (r : Res D) (mz : MEx) (ρ : Rho) : Res D := r.bind fun i S2 => (mz ρ S2).bind fun z S3 => getO (dctO S3 o) (keyD i) z S3
def kG2C (o i : D) (r : Res D) : Res D := r.bind fun z S3 => getO (dctO S3 o) (keyD i) z S3
theorem r_dget2 : mDGet2 mo mi mz ρ S = kG2A (mo ρ S) mi mz ρ := rfl
theorem kG2A_ok {o : D} (h : (dctO S o).isSome = true) : kG2A (.ok o S) mi mz ρ = kG2B o (mi ρ S) mz ρ := if_pos h
theorem kG2B_ok {o i : D} : kG2B o (.ok i S) mz ρ = kG2C o i (mz ρ S) := rfl
theorem kG2C_ok {o i : D} : kG2C o i (.ok z S) = getO (dctO S o) (keyD i) z S := rfl
def kP2A (r : Res D) (mi mz : MEx) (ρ : Rho) : Res D := r.bind fun o S1 => if (dctO S1 o).isSome = true then (mi ρ S1).bind fun i S2 => (mz ρ S2).bind fun z S3 => dPop2 o i z S3 else .stuck
def kP2B (o : D) (r : Res D) (mz : MEx) (ρ : Rho) : Res D := r.bind fun i S2 => (mz ρ S2).bind fun z S3 => dPop2 o i z S3
def kP2C (o i : D) (r : Res D) : Res D := r.bind fun z S3 => dPop2 o i z S3
def popF (o : Option O) (k : Option Key) (l : Nat) (z : D) (S : Sto) : Res D := match o, k with
  | some (.dct false kvs), some k => .ok ((valD kvs k).getD z) (S.set l (.dct false (dropD kvs k)))
  | _, _ => .stuck
theorem drop_none {k : Key} (h : valD kvs k = none) : dropD kvs k = kvs := by
  unfold dropD
  refine List.filter_eq_self.mpr fun kv hkv => decide_eq_true fun z => ?_
  unfold valD at h
  rw [Option.map_eq_none_iff, List.find?_eq_none] at h
  exact h kv hkv (decide_eq_true z)
theorem r_dpop2 : mDPop2 mo mi mz ρ S = kP2A (mo ρ S) mi mz ρ := rfl
theorem kP2A_ok {o : D} (h : (dctO S o).isSome = true) : kP2A (.ok o S) mi mz ρ = kP2B o (mi ρ S) mz ρ := if_pos h
theorem kP2B_ok {o i : D} : kP2B o (.ok i S) mz ρ = kP2C o i (mz ρ S) := rfl
theorem kP2C_ok {i : D} : kP2C (.loc l) i (.ok z S) = popF S[l]? (keyD i) l z S := by
  show dPop2 (.loc l) i z S = _
  unfold dPop2 popF
  cases hk : keyD i with
  | none => cases hs : S[l]? with
    | none => rfl
    | some o => cases o with
      | dct fz kvs => cases fz <;> rfl
      | _ => rfl
  | some k => cases hs : S[l]? with
    | none => simp only [hs]
    | some o => cases o with
      | dct fz kvs =>
        cases fz with
        | true => simp only [hs]
        | false =>
          simp only [hs]
          cases hv : valD kvs k with
          | some x => simp only [Option.getD_some]
          | none =>
            rw [drop_none hv]
            obtain ⟨h1, h2⟩ := List.getElem?_eq_some_iff.mp hs
            rw [← h2, List.set_getElem_self]
            simp only [Option.getD_none]
      | _ => simp only [hs]
theorem popF_ok {k : Key} : popF (some (.dct false kvs)) (some k) l z S = .ok ((valD kvs k).getD z) (S.set l (.dct false (dropD kvs k))) := rfl
theorem r_cDict {tr : Bool} : cDict tr [d] S = dictO tr (dctO S d) S := rfl
theorem dictO_t : dictO true (some kvs) S = .ok (.loc S.length) (S ++ [.dct false kvs]) := rfl
theorem dictO_f (h : pureAll (kvs.map (·.2)) = true) : dictO false (some kvs) S = .ok (.vd (kvs.map (·.1)) (kvs.map (·.2))) S := by
  unfold dictO
  dsimp only
  rw [if_neg (by decide), if_pos h]
end
/-! ### loops by one invariant -/
/-- the body goes on; it may not end the loop otherwise -/
def stepN (P : Rho → Sto → Prop) : SR → Prop
  | .nx ρ S => P ρ S
  | .ct ρ S => P ρ S
  | _ => False
theorem stepN_nx {P : Rho → Sto → Prop} {ρ : Rho} {S : Sto} : stepN P (.nx ρ S) = P ρ S := rfl
theorem stepN_ct {P : Rho → Sto → Prop} {ρ : Rho} {S : Sto} : stepN P (.ct ρ S) = P ρ S := rfl
/-- it may end the def, or break -/
def stepR (P : Rho → Sto → Prop) (R : D → Sto → Prop) : SR → Prop
  | .nx ρ S => P ρ S
  | .ct ρ S => P ρ S
  | .rt d S => R d S
  | _ => False
theorem stepR_nx {P : Rho → Sto → Prop} {R : D → Sto → Prop} {ρ : Rho} {S : Sto} : stepR P R (.nx ρ S) = P ρ S := rfl
theorem stepR_ct {P : Rho → Sto → Prop} {R : D → Sto → Prop} {ρ : Rho} {S : Sto} : stepR P R (.ct ρ S) = P ρ S := rfl
theorem stepR_rt {P : Rho → Sto → Prop} {R : D → Sto → Prop} {d : D} {S : Sto} : stepR P R (.rt d S) = R d S := rfl
theorem forX_nx {t : Tg} {b : MSt} {ρ0 : Rho} {S0 : Sto} {r : SR} {xs : List D} (hr : forX t b xs ρ0 S0 = r) (P : Nat → Rho → Sto → Prop) (h0 : P 0 ρ0 S0)
    (hs : ∀ i x ρ S, xs[i]? = some x → P i ρ S → ∃ ρ1, tgM t x ρ S = some ρ1 ∧ stepN (P (i + 1)) (b ρ1 S)) : ∃ ρ S, r = .nx ρ S ∧ P xs.length ρ S := by
  refine forXI hr P (fun r => ∃ ρ S, r = .nx ρ S ∧ P xs.length ρ S) h0 (fun i x ρ S e p => ?_) fun ρ S p => ⟨ρ, S, rfl, p⟩
  obtain ⟨ρ1, e1, q⟩ := hs i x ρ S e p
  refine ⟨ρ1, e1, ?_⟩
  cases hb : b ρ1 S <;> rw [hb] at q <;> first | exact q | exact q.elim
theorem forX_rt {t : Tg} {b : MSt} {ρ0 : Rho} {S0 : Sto} {r : SR} {xs : List D} (hr : forX t b xs ρ0 S0 = r) (P : Nat → Rho → Sto → Prop) (R : D → Sto → Prop) (h0 : P 0 ρ0 S0)
    (hs : ∀ i x ρ S, xs[i]? = some x → P i ρ S → ∃ ρ1, tgM t x ρ S = some ρ1 ∧ stepR (P (i + 1)) R (b ρ1 S)) : (∃ ρ S, r = .nx ρ S ∧ P xs.length ρ S) ∨ ∃ d S, r = .rt d S ∧ R d S := by
  refine forXI hr P (fun r => (∃ ρ S, r = .nx ρ S ∧ P xs.length ρ S) ∨ ∃ d S, r = .rt d S ∧ R d S) h0 (fun i x ρ S e p => ?_) fun ρ S p => .inl ⟨ρ, S, rfl, p⟩
  obtain ⟨ρ1, e1, q⟩ := hs i x ρ S e p
  refine ⟨ρ1, e1, ?_⟩
  cases hb : b ρ1 S <;> rw [hb] at q <;> first | exact q | exact q.elim | exact .inr ⟨_, _, rfl, q⟩
/-- over a range, to a name -/
theorem forR_nx {k : Nat} {b : MSt} {ρ0 : Rho} {S0 : Sto} {r : SR} {lo : Int} {n : Nat} (hr : forX (.nm k) b (rngL lo n) ρ0 S0 = r) (P : Nat → Rho → Sto → Prop) (h0 : P 0 ρ0 S0)
    (hs : ∀ i ρ S, i < n → P i ρ S → stepN (P (i + 1)) (b (ρ.set k (some (.int (lo + i)))) S)) : ∃ ρ S, r = .nx ρ S ∧ P n ρ S := by
  have := forX_nx (t := .nm k) hr P h0 fun i x ρ S e p => by
    have hi : i < n := by
      have := (List.getElem?_eq_some_iff.mp e).1
      rwa [rngL_len] at this
    rw [rngL_get hi] at e
    cases e
    exact ⟨_, rfl, hs i ρ S hi p⟩
  rwa [rngL_len] at this
theorem forR_rt {k : Nat} {b : MSt} {ρ0 : Rho} {S0 : Sto} {r : SR} {lo : Int} {n : Nat} (hr : forX (.nm k) b (rngL lo n) ρ0 S0 = r) (P : Nat → Rho → Sto → Prop) (R : D → Sto → Prop) (h0 : P 0 ρ0 S0)
    (hs : ∀ i ρ S, i < n → P i ρ S → stepR (P (i + 1)) R (b (ρ.set k (some (.int (lo + i)))) S)) : (∃ ρ S, r = .nx ρ S ∧ P n ρ S) ∨ ∃ d S, r = .rt d S ∧ R d S := by
  have := forX_rt (t := .nm k) hr P R h0 fun i x ρ S e p => by
    have hi : i < n := by
      have := (List.getElem?_eq_some_iff.mp e).1
      rwa [rngL_len] at this
    rw [rngL_get hi] at e
    cases e
    exact ⟨_, rfl, hs i ρ S hi p⟩
  rwa [rngL_len] at this
/-- over a list, to a name -/
theorem forN_nx {k : Nat} {b : MSt} {ρ0 : Rho} {S0 : Sto} {r : SR} {xs : List D} (hr : forX (.nm k) b xs ρ0 S0 = r) (P : Nat → Rho → Sto → Prop) (h0 : P 0 ρ0 S0)
    (hs : ∀ i x ρ S, xs[i]? = some x → P i ρ S → stepN (P (i + 1)) (b (ρ.set k (some x)) S)) : ∃ ρ S, r = .nx ρ S ∧ P xs.length ρ S :=
  forX_nx (t := .nm k) hr P h0 fun i x ρ S e p => ⟨_, rfl, hs i x ρ S e p⟩
theorem forN_rt {k : Nat} {b : MSt} {ρ0 : Rho} {S0 : Sto} {r : SR} {xs : List D} (hr : forX (.nm k) b xs ρ0 S0 = r) (P : Nat → Rho → Sto → Prop) (R : D → Sto → Prop) (h0 : P 0 ρ0 S0)
    (hs : ∀ i x ρ S, xs[i]? = some x → P i ρ S → stepR (P (i + 1)) R (b (ρ.set k (some x)) S)) : (∃ ρ S, r = .nx ρ S ∧ P xs.length ρ S) ∨ ∃ d S, r = .rt d S ∧ R d S :=
  forX_rt (t := .nm k) hr P R h0 fun i x ρ S e p => ⟨_, rfl, hs i x ρ S e p⟩
/-- a loop that reads its source at each turn (a tracked list, a locked dict) -/
theorem forG_nx {it : MIt} {t : Tg} {b : MSt} {m : Nat} {ρ0 : Rho} {S0 : Sto} {r : SR} (hr : forGo it t b m 0 ρ0 S0 = r) (xs : List D) (P : Nat → Rho → Sto → Prop) (hm : xs.length < m) (h0 : P 0 ρ0 S0)
    (hget : ∀ i ρ S, P i ρ S → it.get i S = some xs[i]?)
    (hs : ∀ i x ρ S, xs[i]? = some x → P i ρ S → ∃ ρ1, tgM t x ρ S = some ρ1 ∧ stepN (P (i + 1)) (b ρ1 S)) : ∃ ρ S, r = .nx ρ S ∧ P xs.length ρ S := by
  refine forI hr xs P (fun r => ∃ ρ S, r = .nx ρ S ∧ P xs.length ρ S) hm h0 (fun i ρ S _ p => hget i ρ S p) (fun i x ρ S e p => ?_) fun ρ S p => ⟨ρ, S, rfl, p⟩
  obtain ⟨ρ1, e1, q⟩ := hs i x ρ S e p
  refine ⟨ρ1, e1, ?_⟩
  cases hb : b ρ1 S <;> rw [hb] at q <;> first | exact q | exact q.elim
theorem forG_rt {it : MIt} {t : Tg} {b : MSt} {m : Nat} {ρ0 : Rho} {S0 : Sto} {r : SR} (hr : forGo it t b m 0 ρ0 S0 = r) (xs : List D) (P : Nat → Rho → Sto → Prop) (R : D → Sto → Prop) (hm : xs.length < m) (h0 : P 0 ρ0 S0)
    (hget : ∀ i ρ S, P i ρ S → it.get i S = some xs[i]?)
    (hs : ∀ i x ρ S, xs[i]? = some x → P i ρ S → ∃ ρ1, tgM t x ρ S = some ρ1 ∧ stepR (P (i + 1)) R (b ρ1 S)) : (∃ ρ S, r = .nx ρ S ∧ P xs.length ρ S) ∨ ∃ d S, r = .rt d S ∧ R d S := by
  refine forI hr xs P (fun r => (∃ ρ S, r = .nx ρ S ∧ P xs.length ρ S) ∨ ∃ d S, r = .rt d S ∧ R d S) hm h0 (fun i ρ S _ p => hget i ρ S p) (fun i x ρ S e p => ?_) fun ρ S p => .inl ⟨ρ, S, rfl, p⟩
  obtain ⟨ρ1, e1, q⟩ := hs i x ρ S e p
  refine ⟨ρ1, e1, ?_⟩
  cases hb : b ρ1 S <;> rw [hb] at q <;> first | exact q | exact q.elim | exact .inr ⟨_, _, rfl, q⟩
/-- the keys of a locked dict, to a name -/
theorem forK_nx {l k n : Nat} {b : MSt} {m : Nat} {ρ0 : Rho} {S0 : Sto} {r : SR} (hr : forGo ⟨kyGet l, n⟩ (.nm k) b m 0 ρ0 S0 = r) (kvs : List (Key × D)) (P : Nat → Rho → Sto → Prop) (hm : kvs.length < m) (h0 : P 0 ρ0 S0)
    (hd : ∀ i ρ S, P i ρ S → S[l]? = some (.dct true kvs))
    (hs : ∀ i kv ρ S, kvs[i]? = some kv → P i ρ S → stepN (P (i + 1)) (b (ρ.set k (some (keyOf kv.1))) S)) : ∃ ρ S, r = .nx ρ S ∧ P kvs.length ρ S := by
  have := forG_nx (t := .nm k) hr (kvs.map fun kv => keyOf kv.1) P (by rwa [List.length_map]) h0 (fun i ρ S p => kyGet_ok (hd i ρ S p) i) fun i x ρ S e p => by
    rw [List.getElem?_map] at e
    obtain ⟨kv, e1, rfl⟩ := Option.map_eq_some_iff.mp e
    exact ⟨_, rfl, hs i kv ρ S e1 p⟩
  rwa [List.length_map] at this
theorem forK_rt {l k n : Nat} {b : MSt} {m : Nat} {ρ0 : Rho} {S0 : Sto} {r : SR} (hr : forGo ⟨kyGet l, n⟩ (.nm k) b m 0 ρ0 S0 = r) (kvs : List (Key × D)) (P : Nat → Rho → Sto → Prop) (R : D → Sto → Prop) (hm : kvs.length < m) (h0 : P 0 ρ0 S0)
    (hd : ∀ i ρ S, P i ρ S → S[l]? = some (.dct true kvs))
    (hs : ∀ i kv ρ S, kvs[i]? = some kv → P i ρ S → stepR (P (i + 1)) R (b (ρ.set k (some (keyOf kv.1))) S)) : (∃ ρ S, r = .nx ρ S ∧ P kvs.length ρ S) ∨ ∃ d S, r = .rt d S ∧ R d S := by
  have := forG_rt (t := .nm k) hr (kvs.map fun kv => keyOf kv.1) P R (by rwa [List.length_map]) h0 (fun i ρ S p => kyGet_ok (hd i ρ S p) i) fun i x ρ S e p => by
    rw [List.getElem?_map] at e
    obtain ⟨kv, e1, rfl⟩ := Option.map_eq_some_iff.mp e
    exact ⟨_, rfl, hs i kv ρ S e1 p⟩
  rwa [List.length_map] at this
/-! ### comprehensions that read their source at each turn -/
theorem lcG_map {t : Tg} {me : MEx} {ρ : Rho} {S : Sto} {xs : List D} {it : MIt} (hf : it.fuel = xs.length + 1) (hg : ∀ i acc, it.get i (S ++ [.lst acc]) = some xs[i]?) (f : D → D)
    (h : ∀ x ∈ xs, ∀ acc, ∃ ρ1, tgM t x ρ (S ++ [.lst acc]) = some ρ1 ∧ me ρ1 (S ++ [.lst acc]) = .ok (f x) (S ++ [.lst acc])) (hl : xs.length ≤ 100000) (hp : pureAll (xs.map f) = true) :
    exitR false S (lcGo it t tYesM me ρ S.length it.fuel 0 (S ++ [.lst []])) = .ok (.vl (xs.map f)) S := by
  have e : xs.filter (fun _ => true) = xs := List.filter_eq_self.mpr fun _ _ => rfl
  have := lc_val (it := it) (t := t) (tt := tYesM) (me := me) (ρ := ρ) (S := S) xs (fun _ => true) f hf hg (fun x hx acc => by
    obtain ⟨ρ1, h1, h2⟩ := h x hx acc
    exact ⟨ρ1, h1, rfl, fun _ => h2⟩) hl (by rw [e]; exact hp)
  rw [e] at this
  exact this
theorem kLV_it {it : MIt} {t : Tg} {tt : MTs} {me : MEx} {own : List Nat} {ρ : Rho} {S : Sto} : kLV S (.ok it S) t tt me own ρ = exitR false S (lcGo it t tt me (clr own ρ) S.length it.fuel 0 (S ++ [.lst []])) := rfl
end MP

set_option Elab.async false
set_option linter.all false
set_option maxRecDepth 100000
set_option maxHeartbeats 4000000
namespace MP
open PySem L2
/-! ### sorted, of a list of pairs of ints -/
def lexLe (a b : Int × Int) : Prop := a.1 < b.1 ∨ (a.1 = b.1 ∧ a.2 ≤ b.2)
instance (a b : Int × Int) : Decidable (lexLe a b) := by unfold lexLe; infer_instance
def rSortedPT (K : PySem.W.Frag) : List V → Hp → VK → Prop := fun vs H Q => ∃ (a : Addr) (ps : List (V × (Int × Int))), vs = [V.ref a] ∧ SqL K H a (ps.map (·.1)) ∧ (∀ p ∈ ps, ∃ t, p.1 = V.ref t ∧ SqT K H t [.int p.2.1, .int p.2.2]) ∧
  ∀ (ys : List (V × (Int × Int))) (q : Addr), ys.Perm ps → ys.Pairwise (fun a b => lexLe a.2 b.2) → H q = none → Q (.ref q) (upd H q (.lst (ys.map (·.1))))
section
variable {X : Cx}
open Classical in
theorem cr_sortedPT : CallR X (.builtin "sorted") (rSortedPT X.K) := by
  intro pins s σ H vs us Q I r h
  obtain ⟨a, ps, rfl, hs, hx, q⟩ := h
  obtain ⟨its, rv, hl, hz⟩ := I.list hs
  obtain ⟨u, rfl, ru⟩ := vals1 r
  obtain rfl : u = Value.ref a := ru
  obtain ⟨k, hk⟩ : ∃ k : V → Int × Int, ∀ p ∈ ps, k p.1 = p.2 := by
    refine ⟨fun v => if h : ∃ z, (v, z) ∈ ps then h.choose else (0, 0), fun p hp => ?_⟩
    have hex : ∃ z, (p.1, z) ∈ ps := ⟨p.2, hp⟩
    simp only [dif_pos hex]
    have hc := hex.choose_spec
    obtain ⟨t, e, st⟩ := hx p hp
    obtain ⟨t', e', st'⟩ := hx _ hc
    rw [e] at e'
    injection e' with e'
    subst e'
    have := I.tuple_inj st st'
    injection this with h1 h2
    injection h2 with h2 _
    injection h1 with h1
    injection h2 with h2
    exact Prod.ext h1.symm h2.symm
  obtain ⟨xs, hxs⟩ : ∃ xs, xs = ps.map (·.1) := ⟨_, rfl⟩
  have hps : ps = xs.map fun v => (v, k v) := by
    rw [hxs, List.map_map]
    conv => lhs; rw [← List.map_id ps]
    refine List.map_congr_left fun p hp => ?_
    show p = (p.1, k p.1)
    rw [hk p hp]
  rw [← hxs] at rv hs hz
  have hx' : ∀ x ∈ xs, ∃ t, x = V.ref t ∧ SqT X.K H t [.int (k x).1, .int (k x).2] := fun x m => by
    rw [hxs] at m
    obtain ⟨p, hp, rfl⟩ := List.mem_map.mp m
    obtain ⟨t, e, st⟩ := hx p hp
    exact ⟨t, e, by rw [hk p hp]; exact st⟩
  obtain ⟨e1, e2⟩ := refs_back rv fun x m => by
    obtain ⟨t, e, _⟩ := hx' x m
    exact ⟨t, e⟩
  refine SrtO.sorted_pairsO (k := fun u => k (backV u)) hl.isList (by rw [← rv.length]; exact hz) (fun v hv => ?_) fun h' d out h1 h2 kp hd hn => ?_
  · obtain ⟨t, rfl⟩ := e2 v hv
    have hm : V.ref t ∈ xs := by rw [e1]; exact List.mem_map.mpr ⟨_, hv, rfl⟩
    obtain ⟨t', e, ht⟩ := hx' _ hm
    cases e
    obtain ⟨its2, r2, ⟨o, ho, hc, n, hd⟩, _⟩ := I.tuple ht
    obtain ⟨u1, u2, rfl, ri, rj⟩ := vals2 r2
    obtain ⟨t1, rfl⟩ := ri
    obtain ⟨t2, rfl⟩ := rj
    exact ⟨t, o, t1, t2, n, rfl, ho, hc, hd⟩
  · have h3 : ∀ u ∈ out, ∃ a, u = Value.ref a := fun u hu => e2 u (h2.perm.mem_iff.mp hu)
    obtain ⟨n, hn⟩ := hn
    have hb : SrtO.Stb (ltP k) (out.map backV) xs := by
      rw [e1]
      exact SrtO.Stb.map (ltP_swo k) backV h2
    have hsrt : SrtO.Srtd (ltP k) (out.map backV) := SrtO.srtd_map h1
    have fin := q ((out.map backV).map fun v => (v, k v)) d (by rw [hps]; exact hb.perm.map _) (by
      rw [List.pairwise_map]
      refine List.Pairwise.imp (fun {x y} h => ?_) hsrt
      have h' := SrtO.lexB_no.mp h
      unfold lexLe
      dsimp only
      omega) (I.hok.fresh hd)
    rw [List.map_map, show ((fun p : V × (Int × Int) => p.1) ∘ fun v => (v, k v)) = id from rfl, List.map_id] at fin
    refine ⟨.ref d, upd H d (.lst (out.map backV)), I.laid (t' := s.toks) kp hd ⟨?_, out, n, vals_back h3, hn⟩, rfl, fin⟩
    rw [hb.len]
    exact hz
end
/-! the same over the mirrors -/
def insP (a : Int × Int) : List (Int × Int) → List (Int × Int)
  | [] => [a]
  | b :: l => if lexLe a b then a :: b :: l else b :: insP a l
def sortP : List (Int × Int) → List (Int × Int)
  | [] => []
  | a :: l => insP a (sortP l)
theorem insP_perm (a : Int × Int) : ∀ l, (insP a l).Perm (a :: l)
  | [] => .refl _
  | b :: l => by
    unfold insP
    split
    · exact .refl _
    · exact (List.Perm.cons b (insP_perm a l)).trans (List.Perm.swap a b l)
theorem sortP_perm : ∀ l, (sortP l).Perm l
  | [] => .refl _
  | a :: l => (insP_perm a (sortP l)).trans (List.Perm.cons a (sortP_perm l))
theorem lexLe_tot {a b : Int × Int} (h : ¬ lexLe a b) : lexLe b a := by unfold lexLe at *; omega
theorem lexLe_trans {a b c : Int × Int} (h : lexLe a b) (h2 : lexLe b c) : lexLe a c := by unfold lexLe at *; omega
theorem lexLe_anti {a b : Int × Int} (h : lexLe a b) (h2 : lexLe b a) : a = b := by
  unfold lexLe at *
  exact Prod.ext (by omega) (by omega)
theorem insP_sorted (a : Int × Int) : ∀ l : List (Int × Int), l.Pairwise lexLe → (insP a l).Pairwise lexLe
  | [], _ => List.pairwise_singleton _ _
  | b :: l, h => by
    obtain ⟨h1, h2⟩ := List.pairwise_cons.mp h
    unfold insP
    split
    · rename_i q
      refine List.pairwise_cons.mpr ⟨fun x hx => ?_, h⟩
      rcases List.mem_cons.mp hx with rfl | hx
      · exact q
      · exact lexLe_trans q (h1 x hx)
    · rename_i q
      refine List.pairwise_cons.mpr ⟨fun x hx => ?_, insP_sorted a l h2⟩
      rcases List.mem_cons.mp ((insP_perm a l).mem_iff.mp hx) with rfl | hx
      · exact lexLe_tot q
      · exact h1 x hx
theorem sortP_sorted : ∀ l : List (Int × Int), (sortP l).Pairwise lexLe
  | [] => .nil
  | a :: l => insP_sorted a _ (sortP_sorted l)
theorem sortedP_uniq : ∀ (xs ys : List (Int × Int)), xs.Perm ys → xs.Pairwise lexLe → ys.Pairwise lexLe → xs = ys
  | [], ys, p, _, _ => (List.Perm.nil_eq p)
  | x :: xs, [], p, _, _ => absurd p.length_eq (by simp)
  | x :: xs, y :: ys, p, h1, h2 => by
    have a1 := List.pairwise_cons.mp h1
    have a2 := List.pairwise_cons.mp h2
    have hx : x ∈ y :: ys := p.mem_iff.mp List.mem_cons_self
    have hy : y ∈ x :: xs := p.mem_iff.mpr List.mem_cons_self
    have e : x = y := by
      rcases List.mem_cons.mp hx with z | z
      · exact z
      · rcases List.mem_cons.mp hy with w | w
        · exact w.symm
        · exact lexLe_anti (a1.1 y w) (a2.1 x z)
    subst e
    rw [sortedP_uniq xs ys (List.Perm.cons_inv p) a1.2 a2.2]
def pD (p : Int × Int) : D := .tup [.int p.1, .int p.2]
def pairOf : D → Option (Int × Int)
  | .tup [.int a, .int b] => some (a, b)
  | _ => none
theorem pairOf_ok {d : D} {p : Int × Int} (h : pairOf d = some p) : d = pD p := by
  unfold pairOf at h
  split at h
  · cases h; rfl
  · cases h
def pairsOf : List D → Option (List (Int × Int)) := optAll pairOf
theorem pairsOf_map : ∀ (ps : List (Int × Int)), pairsOf (ps.map pD) = some ps
  | [] => rfl
  | p :: ps => by
    have := pairsOf_map ps
    unfold pairsOf at this ⊢
    rw [List.map_cons]
    simp only [optAll, this, pairOf, pD]
theorem pairsOf_ok {K : PySem.W.Frag} {G : Ga} {H : Hp} {φ : List Addr} : ∀ {xs : List D} {ws : List V} {ps : List (Int × Int)}, RVs K G H φ xs ws → pairsOf xs = some ps →
    ∃ zs : List (V × (Int × Int)), zs.map (·.1) = ws ∧ zs.map (·.2) = ps ∧ ∀ z ∈ zs, ∃ t, z.1 = V.ref t ∧ SqT K H t [.int z.2.1, .int z.2.2]
  | _, _, _, .nil, h => by cases h; exact ⟨[], rfl, rfl, fun z hz => absurd hz List.not_mem_nil⟩
  | _, _, ps, .cons (d := d) (v := v) (ds := ds) (vs := vs) a b, h => by
    unfold pairsOf optAll at h
    split at h
    · rename_i y ys e1 e2
      cases h
      obtain ⟨zs, h1, h2, h3⟩ := pairsOf_ok b e2
      have hd := pairOf_ok e1
      subst hd
      unfold pD at a
      cases a with
      | tup q r =>
        rename_i t _
        cases r with
        | cons r1 r2 =>
          cases r1
          cases r2 with
          | cons r3 r4 =>
            cases r3
            cases r4
            refine ⟨(.ref _, y) :: zs, by rw [List.map_cons, h1], by rw [List.map_cons, h2], fun z hz => ?_⟩
            rcases List.mem_cons.mp hz with rfl | hz
            · exact ⟨_, rfl, q⟩
            · exact h3 z hz
    · cases h
theorem pairs_rvs {K : PySem.W.Frag} {G : Ga} {H : Hp} {φ : List Addr} : ∀ {zs : List (V × (Int × Int))}, (∀ z ∈ zs, ∃ t, z.1 = V.ref t ∧ SqT K H t [.int z.2.1, .int z.2.2]) → RVs K G H φ ((zs.map (·.2)).map pD) (zs.map (·.1))
  | [], _ => .nil
  | (v, p) :: zs, h => by
    obtain ⟨t, e, st⟩ := h (v, p) List.mem_cons_self
    dsimp only at e st
    subst e
    exact .cons (.tup st (.cons .int (.cons .int .nil))) (pairs_rvs fun z hz => h z (List.mem_cons_of_mem _ hz))
def sortPO (tr : Bool) (xs : Option (List D)) (S : Sto) : Res D := match xs with
  | some xs => match pairsOf xs with
    | some ps => newL tr ((sortP ps).map pD) S
    | none => .stuck
  | none => .stuck
def cSortP (tr : Bool) (ds : List D) (S : Sto) : Res D := match ds with
  | [d] => sortPO tr (lstO S d) S
  | _ => .stuck
section
variable {G : Ga} {W : WX}
theorem s_sortP {K : PySem.W.Frag} {tr : Bool} : CallS K G W (cSortP tr) (rSortedPT K) := by
  intro φ S σ H ds vs Q em r h
  unfold cSortP at h
  split at h
  · rename_i d
    cases r with
    | @cons _ v _ _ a b =>
      cases b
      unfold sortPO at h
      split at h
      · rename_i xs es
        split at h
        · rename_i ps e
          obtain ⟨p, ws, rfl, sq, rv⟩ := lst_ok em a es
          obtain ⟨zs, h1, h2, h3⟩ := pairsOf_ok rv e
          refine ⟨p, zs, rfl, by rw [h1]; exact sq, h3, fun ys q pm so hq => ?_⟩
          have e2 : ys.map (·.2) = sortP ps := by
            refine sortedP_uniq _ _ ?_ (by rw [List.pairwise_map]; exact so) (sortP_sorted ps)
            have := pm.map (fun z : V × (Int × Int) => z.2)
            rw [h2] at this
            exact this.trans (sortP_perm ps).symm
          have rr : RVs K G H φ ((ys.map (·.2)).map pD) (ys.map (·.1)) := pairs_rvs fun z hz => h3 z (pm.mem_iff.mp hz)
          rw [e2] at rr
          exact h.newL em rr hq
        · exact h.elim
      · exact h.elim
  · exact h.elim
end
theorem r_sortP {tr : Bool} {d : D} {S : Sto} : cSortP tr [d] S = sortPO tr (lstO S d) S := rfl
theorem sortPO_ok {tr : Bool} {xs : List D} {ps : List (Int × Int)} {S : Sto} (h : pairsOf xs = some ps) : sortPO tr (some xs) S = newL tr ((sortP ps).map pD) S := by
  simp only [sortPO, h]
/-! ### a loop by an invariant that gets smaller -/
theorem whileX {c : MTs} {b : MSt} {ρ : Rho} {S : Sto} {r : SR} (hr : whileN c b FUEL ρ S = r) (P : Nat → Rho → Sto → Prop) (R : Rho → Sto → Prop) (n : Nat) (hn : n < 1000000) (h0 : P n ρ S)
    (hs : ∀ n ρ S, P n ρ S → ∃ t S1, c ρ S = .ok t S1 ∧ (t = false → R ρ S1) ∧ (t = true → stepN (fun ρ' S' => ∃ n', n' < n ∧ P n' ρ' S') (b ρ S1))) : ∃ ρ S, r = .nx ρ S ∧ R ρ S := by
  refine whileI' hr P (fun r => ∃ ρ S, r = .nx ρ S ∧ R ρ S) n hn h0 fun n ρ S p => ?_
  obtain ⟨t, S1, e, h1, h2⟩ := hs n ρ S p
  refine ⟨t, S1, e, fun z => ⟨ρ, S1, rfl, h1 z⟩, fun z => ?_⟩
  have q := h2 z
  cases hb : b ρ S1 <;> rw [hb] at q <;> first | exact q | exact q.elim
theorem perm_map_ex {α β : Type} {f : α → β} {l l' : List β} (h : l.Perm l') : ∀ {m : List α}, l' = m.map f → ∃ js : List α, js.Perm m ∧ l = js.map f := by
  induction h with
  | nil =>
    intro m e
    exact ⟨m, .refl _, e⟩
  | cons x h ih =>
    intro m e
    cases m with
    | nil => cases e
    | cons a m =>
      rw [List.map_cons] at e
      injection e with e1 e2
      obtain ⟨js, p, q⟩ := ih e2
      exact ⟨a :: js, p.cons a, by rw [List.map_cons, ← q, e1]⟩
  | swap x y l =>
    intro m e
    match m, e with
    | [], e => cases e
    | [a], e => simp at e
    | a :: b :: m, e =>
      simp only [List.map_cons, List.cons.injEq] at e
      exact ⟨b :: a :: m, List.Perm.swap a b m, by simp only [List.map_cons]; rw [e.1, e.2.1, e.2.2]⟩
  | trans h1 h2 ih1 ih2 =>
    intro m e
    obtain ⟨js, p, q⟩ := ih2 e
    obtain ⟨ks, p2, q2⟩ := ih1 q
    exact ⟨ks, p2.trans p, q2⟩
theorem nodup_lt_len : ∀ (n : Nat) {l : List Nat}, l.Nodup → (∀ x ∈ l, x < n) → l.length ≤ n
  | 0, [], _, _ => Nat.le_refl _
  | 0, x :: l, _, h => absurd (h x List.mem_cons_self) (Nat.not_lt_zero _)
  | n + 1, l, nd, h => by
    have h1 := nodup_lt_len n (l := l.filter fun x => decide (x ≠ n)) (by rw [List.nodup_iff_pairwise_ne] at *; exact List.Pairwise.filter _ nd) fun x hx => by
      obtain ⟨a, b⟩ := List.mem_filter.mp hx
      have := h x a
      have := of_decide_eq_true b
      omega
    have h2 : ∀ l : List Nat, l.Nodup → l.length ≤ (l.filter fun x => decide (x ≠ n)).length + 1 := fun l => by
      intro nd
      induction l with
      | nil => simp
      | cons a l ih =>
        obtain ⟨n1, n2⟩ := List.nodup_cons.mp nd
        by_cases z : a = n
        · have e : (l.filter fun x => decide (x ≠ n)) = l := List.filter_eq_self.mpr fun x hx => decide_eq_true fun w => n1 (by rw [z, ← w]; exact hx)
          rw [List.filter_cons_of_neg (by simp [z]), e, List.length_cons]
          exact Nat.le_refl _
        · rw [List.filter_cons_of_pos (by simp [z]), List.length_cons, List.length_cons]
          have := ih n2
          omega
    have := h2 l nd
    omega
end MP

set_option Elab.async false
set_option linter.all false
set_option maxRecDepth 100000
set_option maxHeartbeats 4000000
namespace MP
open PySem L2 PyProof.Rows
/-! ### dicts that are equal, value by value -/
section
variable {X : Cx} {G : Ga} {W : WX} {k : Nat}
theorem hitsD {pins : List (Addr × Obj)} {σ : L2.St} {H : Hp} {s : Shared} (I : Inv X pins σ H s) {A : Around} (hu : A.units + 64 < cLine) {kvs : List (Key × V)} {vb : List (Key × Value)} (rb : KV kvs vb) {ks : List (Key × V)} {va : List (Key × Value)} (ra : KV ks va) :
    (∀ p ∈ ks, ∃ u d e, valV kvs p.1 = some u ∧ Dp X.K H p.2 d ∧ Dp X.K H u e ∧ d.canLay0 = true ∧ e.canLay0 = true ∧ d.depth ≤ 40 ∧ PyData.eqv d e = true) → PySem.W.KeqHits A.in1 s vb va true := by
  unfold KV at ra
  induction ra with
  | nil => intro _; exact .nil
  | @cons p q ps qs h t ih =>
    intro hp
    obtain ⟨h1, h2⟩ := h
    obtain ⟨u, d, e, ev, hd, he, sd, se, dd, eq⟩ := hp p List.mem_cons_self
    have rr : RelO (some u) (valueAt vb p.1) := by rw [← ev]; exact rb.val p.1
    obtain ⟨y, hy, ry⟩ := rr.some_of
    obtain ⟨key, v⟩ := q
    have h1' : p.1 = key := h1
    rw [h1'] at hy
    obtain ⟨as, r1⟩ := Dp.reads I d p.2 v hd h2
    obtain ⟨bs, r2⟩ := Dp.reads I e u y he ry
    have ea := SeqAt.eqAt_reads d e A.in1 s v y as bs r1 r2 sd se (by
      show A.units + 1 + min d.depth e.depth < cLine
      have := Nat.min_le_left d.depth e.depth
      omega)
    rw [eq] at ea
    show PySem.W.KeqHits A.in1 s vb ((key, v) :: qs) (true && true)
    exact .hit hy ea (ih fun p' hm => hp p' (List.mem_cons_of_mem _ hm))
def rDD (K : PySem.W.Frag) (neg : Bool) : R2 := fun x y H Q => ∃ a b ks ls, x = .ref a ∧ y = .ref b ∧ H a = some (.dK ks) ∧ H b = some (.dK ls) ∧ ks.length = ls.length ∧
  (∀ p ∈ ks, ∃ u d e, valV ls p.1 = some u ∧ Dp K H p.2 d ∧ Dp K H u e ∧ d.canLay0 = true ∧ e.canLay0 = true ∧ d.depth ≤ 40 ∧ PyData.eqv d e = true) ∧ Q (.bl (!neg)) H
theorem op_ddeq (d : DX X G W k) : OpR X (compareOp .Eq) (rDD X.K false) := by
  intro pins s σ H x y v u Q I rx ry h
  obtain ⟨a, b, ks, ls, rfl, rfl, ea, eb, hl, hc, q⟩ := h
  obtain rfl : v = Value.ref a := rx
  obtain rfl : u = Value.ref b := ry
  obtain ⟨_, ya, va, ra, da⟩ := (show ObjOk X.prog X.w H s.heap a (.dK ks) from I.hok a _ ea)
  obtain ⟨_, yb, vb, rb, db⟩ := (show ObjOk X.prog X.w H s.heap b (.dK ls) from I.hok b _ eb)
  have la : ks.length = va.length := ra.length
  have lb : ls.length = vb.length := rb.length
  have hu := d.hr.units
  refine PySem.W.keq_eq (knd := mixKind X.prog X.w) (r := true) ya yb da db (by omega) (fun e => hitsD I (A := X.A) hu rb ra hc) (fin_bl I q (by rw [← la, ← lb, hl]; simp))
theorem op_ddne (d : DX X G W k) : OpR X (compareOp .NotEq) (rDD X.K true) := by
  intro pins s σ H x y v u Q I rx ry h
  obtain ⟨a, b, ks, ls, rfl, rfl, ea, eb, hl, hc, q⟩ := h
  obtain rfl : v = Value.ref a := rx
  obtain rfl : u = Value.ref b := ry
  obtain ⟨_, ya, va, ra, da⟩ := (show ObjOk X.prog X.w H s.heap a (.dK ks) from I.hok a _ ea)
  obtain ⟨_, yb, vb, rb, db⟩ := (show ObjOk X.prog X.w H s.heap b (.dK ls) from I.hok b _ eb)
  have la : ks.length = va.length := ra.length
  have lb : ls.length = vb.length := rb.length
  have hu := d.hr.units
  refine PySem.W.keq_ne (knd := mixKind X.prog X.w) (r := true) ya yb da db (by omega) (fun e => hitsD I (A := X.A) hu rb ra hc) (fin_bl I q (by rw [← la, ← lb, hl]; simp))
end
/-! over the mirrors: as dEqE, or equal value by value -/
def eqB (S : Sto) (x y : D) : Bool := match pd S 8 x, pd S 8 y with
  | some p, some q => p.canLay0 && q.canLay0 && decide (p.depth ≤ 40) && PyData.eqv p q
  | _, _ => false
def eqKV (S : Sto) (ks ls : List (Key × D)) : Bool := decide (ks.length = ls.length) && ks.all fun kv => match valD ls kv.1 with
  | some d => eqB S kv.2 d
  | none => false
def deX (neg : Bool) (a b : Option (List (Key × D))) (S : Sto) : Res D := match a, b with
  | some ks, some ls => if eqKV S ks ls = true then .ok (.bl (!neg)) S else .stuck
  | _, _ => .stuck
def dEqX (neg : Bool) (x y : D) (S : Sto) : Res D := deX neg (dctU S x) (dctU S y) S
theorem RKs.mem {K : PySem.W.Frag} {G : Ga} {H : Hp} {φ : List Addr} : ∀ {kvs : List (Key × D)} {vs : List (Key × V)}, RKs K G H φ id kvs vs → ∀ p ∈ vs, ∃ kv ∈ kvs, kv.1 = p.1 ∧ RV K G H φ kv.2 p.2
  | _, _, .nil, p, hp => absurd hp List.not_mem_nil
  | _, _, .cons (k := k) (d := d) a b, p, hp => by
    rcases List.mem_cons.mp hp with rfl | hp
    · exact ⟨_, List.mem_cons_self, rfl, a⟩
    · obtain ⟨kv, h1, h2, h3⟩ := RKs.mem b p hp
      exact ⟨kv, List.mem_cons_of_mem _ h1, h2, h3⟩
section
variable {G : Ga} {W : WX}
theorem s_deX {K : PySem.W.Frag} {neg : Bool} : OpS K G W (dEqX neg) (rDD K neg) := by
  intro φ S σ H d1 d2 v1 v2 Q em r1 r2 h
  unfold dEqX deX at h
  split at h
  · rename_i ks ls e1 e2
    split at h
    · rename_i hc
      obtain ⟨p, vs, rfl, hp, rk⟩ := dctU_ok em r1 e1
      obtain ⟨q, us, rfl, hq, rk2⟩ := dctU_ok em r2 e2
      unfold eqKV at hc
      rw [Bool.and_eq_true] at hc
      have hl := of_decide_eq_true hc.1
      have hall := List.all_eq_true.mp hc.2
      refine ⟨p, q, vs, us, rfl, rfl, hp, hq, by rw [← rk.length, ← rk2.length, hl], fun x hx => ?_, outR.ok (R := rE K G) h em .bl⟩
      obtain ⟨kv, hkv, hk, rv⟩ := rk.mem x hx
      have := hall kv hkv
      split at this
      · rename_i d ed
        obtain ⟨u, eu, ru⟩ := (rk2.val kv.1).1 d ed
        rw [hk] at eu
        unfold eqB at this
        split at this
        · rename_i p' q' ep eq
          simp only [Bool.and_eq_true, decide_eq_true_eq] at this
          exact ⟨u, p', q', eu, pd_dp em 8 _ _ _ rv ep, pd_dp em 8 _ _ _ ru eq, this.1.1.1, this.1.1.2, this.1.2, this.2⟩
        · cases this
      · cases this
    · exact h.elim
  · exact h.elim
end
end MP

set_option Elab.async false
set_option linter.all false
set_option maxRecDepth 100000
set_option maxHeartbeats 4000000
namespace MP
open PySem L2 PySem.Spec PyProof.Rows
/-! ### sorted(d.values()), a dict with fewer than 64 ints -/
section
variable {X : Cx} {G : Ga} {W : WX} {k : Nat}
def tSortVals (td : TE) : TE := fun σ H Q => td σ H fun x H1 => ∃ a kvs is, x = V.ref a ∧ Rd H1 a (.dK kvs) ∧ kvs.map (·.2) = is.map V.int ∧ is.length < 64 ∧
  ∀ (ys : List Int) (p : Addr), ys.Perm is → ys.Pairwise (· ≤ ·) → H1 p = none → Q (.ref p) (upd H1 p (.lst (ys.map V.int)))
theorem pe_sortVals {o : Expr} {p pos apos mpos : Pos} {td : TE} (hc : X.calm = true) (hg : Gl X "sorted") (hm : X.mg "sorted" = none) (hd : PE X o td) (hbase : attributeBase o "values" X.env (eval o X.env) = eval o X.env := by rfl) (hline : (apos.endLine == mpos.line) = true := by rfl)
    (hse : starEach [Expr.Call (.Attribute o "values" apos) [] [] mpos] X.env = [(false, eval (Expr.Call (.Attribute o "values" apos) [] [] mpos) X.env)] := by rfl) :
    PE X (.Call (.Name "sorted" p) [.Call (.Attribute o "values" apos) [] [] mpos] [] pos) (tSortVals td) := by
  refine ⟨fun pins s σ H Q I h => ?_⟩
  refine wpAny_Call_Name_kw (ld_blt I hg hm (u := .builtin "sorted") (by first | rfl | decide +kernel) ?_ (by first | decide +kernel | decide) (by first | decide +kernel | decide))
  rw [hse]
  refine PySem.callWith_builtin1 (wpAny_Call_method0_late hbase hline (thn (hd.run pins s σ H _ I h) fun v s1 ⟨x, H1, I1, r1, a, kvs, is, ex, ha, hv, h64, q⟩ => ?_))
  subst ex
  obtain rfl : v = Value.ref a := r1
  obtain ⟨_, hsys, vs, rel, dof⟩ := dk_rd I1.hok ha
  obtain ⟨ep, dat⟩ := dof.dictAt
  have dat' := dat
  obtain ⟨ob, es, ho, ex, hdat, hko, hpr, hnd⟩ := dat'
  refine ⟨"dict", "dict.values", F.plainAttrs_dict, F.slot_dict_values, F.type_dict_values, ⟨ob, ho, ex.1⟩, fun b e => ?_, Calls.callWith_builtin rfl (PySem.evalArgs_none ?_)⟩
  · cases e
    exact ⟨ob, ho, ex.2.1⟩
  refine call_meetsIn F.slot_dict_values ⟨ob, ho, ex.1⟩ F.entry_dict_values (F.args_dict_values_1 _) (meets_dict_values (mixKind X.prog X.w) a hsys) ⟨⟨vs, dof⟩, ?_⟩
  have k1 : ∀ b u, s1.heap.get? b = some u → (s1.heap.push { cls := .type "dict_values", data := .fields #[.ref a] }).get? b = some u := fun b u e => Heap.get?_push_of_some _ e
  have dat1 : (s1.heap.push { cls := .type "dict_values", data := .fields #[.ref a] }).DictAt (mixKind X.prog X.w) a vs ep := dat.keep k1
  have hlv : vs.length = is.length := by
    have e1 := congrArg List.length hv
    rw [List.length_map, List.length_map] at e1
    rw [← e1]
    exact (KV.length rel).symm
  have h16 : vs.length ≤ sizeLine := by rw [hlv, sizeLine_eq]; omega
  have hval : ∀ (i : Nat) (v : Value), (∃ k, vs[i]? = some (k, v)) → ∃ y t, is[i]? = some y ∧ v = Value.int y t := fun i v ⟨k, hk⟩ => by
    obtain ⟨x, h1, h2⟩ := KV.at' rel hk
    have e1 : (kvs.map (·.2))[i]? = some x := by rw [List.getElem?_map, h1] <;> rfl
    rw [hv, List.getElem?_map] at e1
    obtain ⟨j, hj, e2⟩ := Option.map_eq_some_iff.mp e1
    subst e2
    obtain ⟨t, e3⟩ := h2
    exact ⟨j, t, hj, e3⟩
  refine Calls.call_function_entry PyProof.Rows.kind_sorted PyProof.Rows.plain_sorted PyProof.Rows.entry_sorted (PyProof.Rows.args_sorted1 _) ?_
  unfold Builtin.«sorted»
  refine wpAny_bind (m := checkCount "sorted" 1 1 _) (wpAny_pure ?_)
  refine wpAny_bind (PySem.W.kdu_collect (A := X.A.in1) (PySem.W.kdl_values (r := s1.heap.objs.size) (d := a) (knd := mixKind X.prog X.w) (kvs := vs) (ep := ep)) (I1.ok.hd hc) ⟨⟨_, Heap.get?_push_size _ rfl, rfl, rfl⟩, dat1⟩ h16 fun h' tk acc hk hacc => ?_)
  have hal : acc.toList.length = is.length := by rw [Array.length_toList, hacc.1, hlv]
  have hS : IntsAre acc.toList is := ints_each hal fun j v e => by
    obtain ⟨y, t, h1, h2⟩ := hval j v (hacc.2 j v (by rw [← Array.getElem?_toList]; exact e))
    exact ⟨y, t, h1, h2⟩
  have I2 : Inv X pins σ H1 { s1 with heap := h', toks := tk } := I1.kept fun b u e => hk b u (k1 b u e)
  refine wpAny_bind (wpAny_newList ?_ (by rw [hal, sizeLine_eq]; omega))
  have hoL : (h'.push (seqObj "list" acc.toList.toArray 0)).get? h'.objs.size = some (seqObj "list" acc.toList.toArray 0) := Heap.get?_push_size _ rfl
  show wpAny _ _ _ _ _ { s1 with heap := h'.push (seqObj "list" acc.toList.toArray 0), toks := tk }
  refine wpAny_bind (wpAny_holding (wpAny_call_entry PyProof.Rows.slot_list_sort ⟨_, hoL, rfl⟩ PyProof.Rows.entry_list_sort
    (PyProof.Rows.list_sort_tree (s := { s1 with heap := h'.push (seqObj "list" acc.toList.toArray 0), toks := tk }) hoL hS (by rw [hal]; exact h64) fun out ys g1 g2 g3 => ⟨_, rfl, ?_⟩) (PyProof.Rows.args_list_sort _)))
  obtain ⟨e', he'⟩ := PyProof.Rows.sortedHeap_at (vs := acc.toList) (out := out) hoL
  have hlen : (ys.map V.int).length ≤ sizeLine := by
    rw [List.length_map, g2.length_eq]
    exact Nat.le_trans (Nat.le_of_lt h64) (by decide)
  refine wpAny_pure ⟨_, rfl, .ref h'.objs.size, upd H1 h'.objs.size (.lst (ys.map V.int)), I2.laid (t' := tk) (fun b u e => ?_) (Nat.le_refl _)
    (show ObjOk X.prog X.w _ _ _ (.lst (ys.map V.int)) from ⟨hlen, out.toList, e', vals_of_ints g1, by rw [Array.toArray_toList]; exact he'⟩), rfl, q ys _ g2 g3 (I2.hok.fresh (Nat.le_refl _))⟩
  have hb : b < h'.objs.size := Heap.lt_size e
  rw [PyProof.Rows.sortedHeap_old (Nat.ne_of_lt hb) (by rw [size_push']; exact Nat.lt_succ_of_lt hb)]
  exact Heap.get?_push_of_some _ e
/-! over the mirrors -/
def sortVO (tr : Bool) (o : Option (List (Key × D))) (S : Sto) : Res D := match o with
  | some kvs => match intsOf (kvs.map (·.2)) with
    | some is => if is.length < 64 then newL tr ((sortI is).map .int) S else .stuck
    | none => .stuck
  | none => .stuck
def mSortV (tr : Bool) (m : MEx) : MEx := fun ρ S => (m ρ S).bind fun o S1 => sortVO tr (dctO S1 o) S1
theorem sortVO_ok {tr : Bool} {kvs : List (Key × D)} {is : List Int} {S : Sto} (h : intsOf (kvs.map (·.2)) = some is) (hl : is.length < 64) : sortVO tr (some kvs) S = newL tr ((sortI is).map .int) S := by
  simp only [sortVO, h, if_pos hl]
theorem d_sortV {tr : Bool} {o : Expr} {mo : MEx} {p pos apos mpos : Pos} (d : DX X G W k) (hm : X.mg "sorted" = none) (ho : PE X o (wpE X.K G W mo)) (hg : Gl X "sorted" := by rfl) (hbase : attributeBase o "values" X.env (eval o X.env) = eval o X.env := by rfl) (hline : (apos.endLine == mpos.line) = true := by rfl)
    (hse : starEach [Expr.Call (.Attribute o "values" apos) [] [] mpos] X.env = [(false, eval (Expr.Call (.Attribute o "values" apos) [] [] mpos) X.env)] := by rfl) :
    PE X (.Call (.Name "sorted" p) [.Call (.Attribute o "values" apos) [] [] mpos] [] pos) (wpE X.K G W (mSortV tr mo)) := by
  refine pe_conv (pe_sortVals d.calm hg hm ho hbase hline hse) ?_
  rintro σ H Q ⟨φ, ρ, S, em, rs, h⟩
  refine ⟨φ, ρ, S, em, rs, h.bind fun x S1 φ1 v1 H1 x1 em1 r1 h1 => ?_⟩
  unfold sortVO at h1
  split at h1
  · rename_i kvs es
    split at h1
    · rename_i is e
      split at h1
      · rename_i hl
        obtain ⟨a, vs, rfl, rd, rk⟩ := dct_ok em1 r1 es
        have rv := RKs.vals rk
        rw [intsOf_ok e] at rv
        refine ⟨a, vs, is, rfl, rd, rvs_ints rv, hl, fun ys q pm so hq => ?_⟩
        rw [sorted_uniq ys (sortI is) (pm.trans (sortI_perm is).symm) so (sortI_sorted is)]
        exact h1.newL em1 ints_rvs hq
      · exact h1.elim
    · exact h1.elim
  · exact h1.elim
/-! ### d.clear() -/
def dClr (o : D) (S : Sto) : Res D := match o with
  | .loc l => match S[l]? with
    | some (.dct false _) => .ok .non (S.set l (.dct false []))
    | _ => .stuck
  | _ => .stuck
def mDClr (mo : MEx) : MEx := fun ρ S => (mo ρ S).bind fun o S1 => dClr o S1
theorem r_dclr {l : Nat} {S : Sto} {kvs : List (Key × D)} (h : S[l]? = some (.dct false kvs)) : dClr (.loc l) S = .ok .non (S.set l (.dct false [])) := by
  simp only [dClr, h]
theorem d_dclr {o : Expr} {mo : MEx} {apos cpos : Pos} (ho : PE X o (wpE X.K G W mo)) (hbase : attributeBase o "clear" X.env (eval o X.env) = eval o X.env := by rfl) (hline : (apos.endLine == cpos.line) = true := by rfl) :
    PE X (.Call (.Attribute o "clear" apos) [] [] cpos) (wpE X.K G W (mDClr mo)) := by
  refine pe_conv (pe_dclear ho hbase hline) ?_
  rintro σ H Q ⟨φ, ρ, S, em, rs, h⟩
  refine ⟨φ, ρ, S, em, rs, h.bind fun x S2 φ2 v2 H2 x2 em2 r2 h2 => ?_⟩
  unfold dClr at h2
  split at h2
  · rename_i l
    split at h2
    · rename_i kvs2 es2
      obtain ⟨a', hr, ha, ro⟩ := em2.at_loc es2 r2
      cases hr
      cases ro with
      | dct e1 rk2 =>
        rename_i vs2
        have n1 : ∀ xs, HO.dK vs2 ≠ .tup xs := fun _ z => nomatch z
        have n2 : ∀ ob w, HO.dK vs2 ≠ .frz ob w := fun _ _ z => nomatch z
        have xa : Ext φ2 H2 φ2 (upd H2 a' (.dK [])) := .at ha e1 n1 n2
        have em3 := em2.set (o := .dct false []) (ho := .dK []) es2 ha e1 n1 n2 (.dct upd_same .nil)
        exact ⟨.inr (.inr (.inl ⟨rfl, .inl ⟨_, e1⟩⟩)), a', vs2, rfl, rfl, e1, h2 φ2 .non _ xa em3 .non⟩
    · exact h2.elim
  · exact h2.elim
end
end MP

set_option Elab.async false
set_option linter.all false
set_option maxRecDepth 100000
set_option maxHeartbeats 4000000
namespace MP
open PySem L2
def Xc.nm : Xc → Str
  | .NoDeed => "NoDeed" | .NoLog => "NoLog" | .NoThing => "NoThing" | .NoField => "NoField" | .NoRoom => "NoRoom"
abbrev veMro : List Value := [.type "ValueError", .type "Exception", .type "BaseException", .type "object"]
/-- an own exception class without __init__ -/
structure FnX (K : PySem.W.Frag) (mg : Str → Option Value) (G : Ga) (c : Xc) : Prop where
  ex : PySem.W.excIn K (G.xc c) veMro "ValueError.__new__" = true ∧ PySem.W.keepIn K (.ref (G.xc c)) = true ∧ PySem.W.subIn K (.ref (G.xc c)) (.type "BaseException") = some true ∧ PySem.W.typeIn K (.ref (G.xc c)) = some (.type "type") ∧ mg c.nm = some (.ref (G.xc c))
section
variable {X : Cx} {G : Ga} {W : WX} {k : Nat}
/-! ### raise C("..") -/
def sRaise (c : Xc) : MSt := fun ρ S => .xc ⟨c, none⟩ ρ S
theorem s_raise {c : Xc} {x m : Str} {j : Nat} {p p2 pos pos2 : Pos} (F : FnX X.K X.mg G c) (d : DX X G W k) (hx : c.nm = x := by rfl) (hg : Gl X x := by rfl) (hdb : (x == ("__debug__" : Str)) = false := by decide) :
    PS X (.Raise (some (.Call (.Name x p) [.Constant (.str m) j p2] [] pos)) none pos2) (wpS X.K G W (sRaise c)) := by
  subst hx
  obtain ⟨h1, h2, h3, h4, h5⟩ := F.ex
  refine ps_conv (ps_raise d.calm d.tk (pmk_own PySem.F.excBase_ValueError h1 h5 h2 (raises_own h3 h4) hg hdb)) ?_
  rintro D σ H ⟨φ, ρ, S, em, rs, h⟩
  exact h φ σ H .refl em rs
/-! ### try: body / except C: suite / .. -/
/-- a class that an except clause names, and which of the known exceptions it catches -/
structure HdX (K : PySem.W.Frag) (mg : Str → Option Value) (G : Ga) (x : Str) (l : List (Xc × Bool)) : Prop where
  ex : ∃ cv, mg x = some cv ∧ ∀ p ∈ l, PySem.W.exmOne K (.ref (G.xc p.1)) cv = some p.2
def noXS : SR → SR
  | .xc _ _ _ => .stuck
  | r => r
def hGo : List (List (Xc × Bool) × MSt) → Ex → Rho → Sto → SR
  | [], e, ρ, S => .xc e ρ S
  | (l, m) :: r, e, ρ, S => match l.lookup e.c with
    | some true => noXS (m ρ S)
    | some false => hGo r e ρ S
    | none => .stuck
def sTry (b : MSt) (hs : List (List (Xc × Bool) × MSt)) : MSt := fun ρ S => match b ρ S with
  | .xc e ρ' S' => hGo hs e ρ' S'
  | r => r
inductive HsD (X : Cx) (G : Ga) : List ExceptHandler → List (List (Xc × Bool) × MSt) → Prop
  | nil : HsD X G [] []
  | cons {x : Str} {l : List (Xc × Bool)} {m : MSt} {b₀ : Stmt} {suite : List Stmt} {np pos' : Pos} {hds : List ExceptHandler} {hs : List (List (Xc × Bool) × MSt)} (F : HdX X.K X.mg G x l) (hg : Gl X x) (hdb : (x == ("__debug__" : Str)) = false)
      (hsu : ∀ (a : Addr) (oe : Obj) (pn : List (Addr × Obj)), PSs (X.suite a ((a, oe) :: pn)) (b₀ :: suite) (wpS X.K G W0 m)) (r : HsD X G hds hs) :
      HsD X G (.ExceptHandler (some (.Name x np)) none (b₀ :: suite) pos' :: hds) ((l, m) :: hs)
theorem lookup_mem {α β : Type} [BEq α] [LawfulBEq α] {l : List (α × β)} {a : α} {b : β} (h : l.lookup a = some b) : (a, b) ∈ l := by
  induction l with
  | nil => cases h
  | cons p r ih =>
    obtain ⟨x, y⟩ := p
    rw [List.lookup_cons] at h
    split at h
    · rename_i e
      cases h
      rw [eq_of_beq e]
      exact List.mem_cons_self
    · exact List.mem_cons_of_mem _ (ih h)
theorem noX_out {K : PySem.W.Frag} {r : SR} {φ : List Addr} {H : Hp} {D : Ends} (h : outS K G W (noXS r) φ H D) : outS K G W0 r φ H D := by
  cases r with
  | xc e ρ S => exact h.elim
  | nx ρ S => exact h
  | rt d S => exact h
  | bk ρ S => exact h
  | ct ρ S => exact h
  | stuck => exact h
theorem hs_ok {hds : List ExceptHandler} {hs : List (List (Xc × Bool) × MSt)} (h : HsD X G hds hs) : ∃ l, HdsOk X hds l ∧
    ∀ (W : WX) (D : Ends) (e : Ex) (φ : List Addr) (ρ : Rho) (S : Sto) (σ : St) (H : Hp), Emb X.K G φ S H → RS X.K G φ ρ σ H → outS X.K G W (hGo hs e ρ S) φ H D → XW X.K G (wMany X.K W D l) e φ σ H := by
  induction h with
  | nil => exact ⟨[], .nil, fun W D e φ ρ S σ H em rs h => h φ σ H .refl em rs⟩
  | @cons x l m b₀ suite np pos' hds hs F hg hdb hsu r ih =>
    obtain ⟨ll, h1, h2⟩ := ih
    obtain ⟨cv, e1, e2⟩ := F.ex
    refine ⟨(cv, fun _ _ _ => wpS X.K G W0 m) :: ll, .cons ⟨hg, hdb, .inl e1⟩ (fun a oe cls d pn _ _ => hsu a oe pn) h1, fun W D e φ ρ S σ H em rs h => ?_⟩
    have key : ∀ dd, (∀ (hf : outS X.K G W (hGo hs e ρ S) φ H D), wMany X.K W D ll (.ref (G.xc e.c)) dd σ H) → wMany X.K W D ((cv, fun _ _ _ => wpS X.K G W0 m) :: ll) (.ref (G.xc e.c)) dd σ H := by
      intro dd hw
      unfold hGo at h
      split at h
      · rename_i q
        exact ⟨true, e2 _ (lookup_mem q), fun _ a _ => ⟨φ, ρ, S, em, rs, noX_out h⟩, fun z => nomatch z⟩
      · rename_i q
        exact ⟨false, e2 _ (lookup_mem q), (fun z => nomatch z), fun _ => hw h⟩
      · exact h.elim
    unfold XW
    have h3 := h2 W D e φ ρ S σ H em rs
    unfold XW at h3
    cases hv : e.v with
    | none => rw [hv] at h3; exact key none h3
    | some y => rw [hv] at h3; exact fun dd v a b => key (some dd) fun hf => h3 hf dd v a b
theorem s_try {body : List Stmt} {h₀ : ExceptHandler} {hds : List ExceptHandler} {mb : MSt} {hs : List (List (Xc × Bool) × MSt)} {pos : Pos} (d : DX X G W k)
    (hb : ∀ (W' : WX) (pn : List (Addr × Obj)) (xe : Value → Shared → Prop), DX (X.tr pn xe) G W' k → PSs (X.tr pn xe) body (wpS X.K G W' mb)) (hh : HsD X G (h₀ :: hds) hs)
    (hs' : X.stack = X.env :: X.outer := by rfl) (hf : X.env.frame = some X.env.locals := by rfl) : PS X (.Try body (h₀ :: hds) [] [] pos) (wpS X.K G W (sTry mb hs)) := by
  obtain ⟨l, h1, h2⟩ := hs_ok hh
  refine ps_conv (ps_try_many hs' hf d.tk (tb := fun W' => wpS X.K G W' mb) (fun W' pn xe tk pp => hb W' pn xe ⟨d.calm, tk, pp, d.hr, d.nd⟩) h1) ?_
  rintro D σ H ⟨φ, ρ, S, em, rs, h⟩
  refine ⟨φ, ρ, S, em, rs, ?_⟩
  unfold sTry at h
  cases q : mb ρ S with
  | nx ρ' S' => rw [q] at h; exact h
  | rt v S' => rw [q] at h; exact h
  | bk ρ' S' => rw [q] at h; exact h
  | ct ρ' S' => rw [q] at h; exact h
  | stuck => rw [q] at h; exact h
  | xc e ρ' S' =>
    rw [q] at h
    intro φ' σ' H' x em' rs'
    exact h2 W D e φ' ρ' S' σ' H' em' rs' (outS.from x h)
/-- x = e where nothing is known of what is handled -/
theorem s_setN {i : Nat} {x : Str} {e : Expr} {m : MEx} {pos pos' : Pos} (hN : X.N.Nodup) (he : PE X e (wpE X.K G W m)) (hi : X.N[i]? = some x := by rfl) (hx : Loc X.env.scope x := by first | exact Or.inl rfl | exact Or.inr rfl)
    (hs : swapsWith e (some (.Name x pos')) pos.line X.env = pure false := by rfl) (hf : X.fn x = true ∨ X.env.scope.names.lookup x = some .local := by first | exact .inl rfl | exact .inr rfl) : PS X (.Assign [.Name x pos'] e pos) (wpS X.K G W (sSet i m)) := by
  refine ps_conv (ps_set hN hi hx he hs hf) ?_
  rintro D σ H ⟨φ, ρ, S, em, rs, h⟩
  refine ⟨φ, ρ, S, em, rs, outR.st rs h fun v S1 φ1 y H1 x em1 rv h1 => ?_⟩
  exact h1 φ1 _ H1 .refl em1 ((rs.ext x).set i rv)
/-- == of two texts -/
def eqSS (x y : D) (S : Sto) : Res D := match x, y with
  | .str a, .str b => .ok (.bl (decide (a = b))) S
  | _, _ => .stuck
theorem s_eqSS {K : PySem.W.Frag} : OpS K G W eqSS rEq := by
  intro φ S σ H d1 d2 v1 v2 Q em r1 r2 h
  unfold eqSS at h
  split at h
  · cases r1; cases r2
    have q := outR.ok (R := rE K G) h em .bl
    exact ⟨rfl, by rwa [show decide (V.str _ = V.str _) = decide (_ = _) from decide_eq_decide.mpr ⟨fun z => V.str.inj z, fun z => by rw [z]⟩]⟩
  · exact h.elim
end
/-! steps -/
section
variable {b m : MSt} {ρ : Rho} {S : Sto} {d : D} {e : Ex} {c : Xc} {hs r : List (List (Xc × Bool) × MSt)} {l : List (Xc × Bool)}
theorem r_raise_ : sRaise c ρ S = .xc ⟨c, none⟩ ρ S := rfl
def kTry (r : SR) (hs : List (List (Xc × Bool) × MSt)) : SR := match r with
  | .xc e ρ' S' => hGo hs e ρ' S'
  | r => r
theorem r_try : sTry b hs ρ S = kTry (b ρ S) hs := by unfold sTry kTry; rfl
theorem kTry_nx : kTry (.nx ρ S) hs = .nx ρ S := rfl
theorem kTry_rt : kTry (.rt d S) hs = .rt d S := rfl
theorem kTry_xc : kTry (.xc e ρ S) hs = hGo hs e ρ S := rfl
def kHd (o : Option Bool) (m : MSt) (r : List (List (Xc × Bool) × MSt)) (e : Ex) (ρ : Rho) (S : Sto) : SR := match o with
  | some true => noXS (m ρ S)
  | some false => hGo r e ρ S
  | none => .stuck
theorem r_hGo : hGo ((l, m) :: r) e ρ S = kHd (l.lookup e.c) m r e ρ S := by unfold kHd; rw [hGo] <;> rfl
theorem r_hGo0 : hGo [] e ρ S = .xc e ρ S := rfl
theorem kHd_t : kHd (some true) m r e ρ S = noXS (m ρ S) := rfl
theorem kHd_f : kHd (some false) m r e ρ S = hGo r e ρ S := rfl
theorem noXS_nx : noXS (.nx ρ S) = .nx ρ S := rfl
theorem noXS_rt : noXS (.rt d S) = .rt d S := rfl
theorem xlk_yes {t : Bool} {l : List (Xc × Bool)} : List.lookup c ((c, t) :: l) = some t := by simp [List.lookup]
theorem xlk_no {c' : Xc} {t : Bool} {l : List (Xc × Bool)} (h : c ≠ c') : List.lookup c ((c', t) :: l) = List.lookup c l := by
  have : (c == c') = false := by simpa using h
  simp [List.lookup, this]
theorem r_eqSS {x y : Str} : eqSS (.str x) (.str y) S = .ok (.bl (decide (x = y))) S := rfl
end
/-! a text among texts -/
theorem inS1f {x a0 : Str} {S : Sto} : inQ false (.str x) (.vl [.str a0]) S = .ok (.bl (decide (a0 = x))) S := by
  unfold inQ
  rw [items_vl]
  simp [flatD, inFlat, eqFlat, BEq.beq, Bool.or_assoc, Bool.and_assoc]
theorem inS1t {x a0 : Str} {S : Sto} : inQ true (.str x) (.vl [.str a0]) S = .ok (.bl (!(decide (a0 = x)))) S := by
  unfold inQ
  rw [items_vl]
  simp [flatD, inFlat, eqFlat, BEq.beq, Bool.or_assoc, Bool.and_assoc]
theorem inS2f {x a0 a1 : Str} {S : Sto} : inQ false (.str x) (.vl [.str a0, .str a1]) S = .ok (.bl (decide (a0 = x) || decide (a1 = x))) S := by
  unfold inQ
  rw [items_vl]
  simp [flatD, inFlat, eqFlat, BEq.beq, Bool.or_assoc, Bool.and_assoc]
theorem inS2t {x a0 a1 : Str} {S : Sto} : inQ true (.str x) (.vl [.str a0, .str a1]) S = .ok (.bl (!(decide (a0 = x) || decide (a1 = x)))) S := by
  unfold inQ
  rw [items_vl]
  simp [flatD, inFlat, eqFlat, BEq.beq, Bool.or_assoc, Bool.and_assoc]
theorem inS3f {x a0 a1 a2 : Str} {S : Sto} : inQ false (.str x) (.vl [.str a0, .str a1, .str a2]) S = .ok (.bl (decide (a0 = x) || decide (a1 = x) || decide (a2 = x))) S := by
  unfold inQ
  rw [items_vl]
  simp [flatD, inFlat, eqFlat, BEq.beq, Bool.or_assoc, Bool.and_assoc]
theorem inS3t {x a0 a1 a2 : Str} {S : Sto} : inQ true (.str x) (.vl [.str a0, .str a1, .str a2]) S = .ok (.bl (!(decide (a0 = x) || decide (a1 = x) || decide (a2 = x)))) S := by
  unfold inQ
  rw [items_vl]
  simp [flatD, inFlat, eqFlat, BEq.beq, Bool.or_assoc, Bool.and_assoc]
theorem inS4f {x a0 a1 a2 a3 : Str} {S : Sto} : inQ false (.str x) (.vl [.str a0, .str a1, .str a2, .str a3]) S = .ok (.bl (decide (a0 = x) || decide (a1 = x) || decide (a2 = x) || decide (a3 = x))) S := by
  unfold inQ
  rw [items_vl]
  simp [flatD, inFlat, eqFlat, BEq.beq, Bool.or_assoc, Bool.and_assoc]
theorem inS4t {x a0 a1 a2 a3 : Str} {S : Sto} : inQ true (.str x) (.vl [.str a0, .str a1, .str a2, .str a3]) S = .ok (.bl (!(decide (a0 = x) || decide (a1 = x) || decide (a2 = x) || decide (a3 = x)))) S := by
  unfold inQ
  rw [items_vl]
  simp [flatD, inFlat, eqFlat, BEq.beq, Bool.or_assoc, Bool.and_assoc]
theorem inS5f {x a0 a1 a2 a3 a4 : Str} {S : Sto} : inQ false (.str x) (.vl [.str a0, .str a1, .str a2, .str a3, .str a4]) S = .ok (.bl (decide (a0 = x) || decide (a1 = x) || decide (a2 = x) || decide (a3 = x) || decide (a4 = x))) S := by
  unfold inQ
  rw [items_vl]
  simp [flatD, inFlat, eqFlat, BEq.beq, Bool.or_assoc, Bool.and_assoc]
theorem inS5t {x a0 a1 a2 a3 a4 : Str} {S : Sto} : inQ true (.str x) (.vl [.str a0, .str a1, .str a2, .str a3, .str a4]) S = .ok (.bl (!(decide (a0 = x) || decide (a1 = x) || decide (a2 = x) || decide (a3 = x) || decide (a4 = x)))) S := by
  unfold inQ
  rw [items_vl]
  simp [flatD, inFlat, eqFlat, BEq.beq, Bool.or_assoc, Bool.and_assoc]
theorem inS6f {x a0 a1 a2 a3 a4 a5 : Str} {S : Sto} : inQ false (.str x) (.vl [.str a0, .str a1, .str a2, .str a3, .str a4, .str a5]) S = .ok (.bl (decide (a0 = x) || decide (a1 = x) || decide (a2 = x) || decide (a3 = x) || decide (a4 = x) || decide (a5 = x))) S := by
  unfold inQ
  rw [items_vl]
  simp [flatD, inFlat, eqFlat, BEq.beq, Bool.or_assoc, Bool.and_assoc]
theorem inS6t {x a0 a1 a2 a3 a4 a5 : Str} {S : Sto} : inQ true (.str x) (.vl [.str a0, .str a1, .str a2, .str a3, .str a4, .str a5]) S = .ok (.bl (!(decide (a0 = x) || decide (a1 = x) || decide (a2 = x) || decide (a3 = x) || decide (a4 = x) || decide (a5 = x)))) S := by
  unfold inQ
  rw [items_vl]
  simp [flatD, inFlat, eqFlat, BEq.beq, Bool.or_assoc, Bool.and_assoc]
/-! data among data -/
section
variable {X : Cx} {G : Ga} {W : WX} {k : Nat}
def rInDn (K : PySem.W.Frag) (neg : Bool) : R2 := match neg with
  | false => rInD K
  | true => rNotInD K
def inDp (neg : Bool) (x y : D) (S : Sto) : Res D := match pd S 8 x, pd S 8 y with
  | some d, some (.list ds) => if SeqAt.shaped d = true ∧ SeqAt.shaped (.list ds) = true then .ok (.bl (if neg = true then !(ds.any fun z => PyData.eqv z d) else ds.any fun z => PyData.eqv z d)) S else .stuck
  | _, _ => .stuck
theorem op_inDp (d : DX X G W k) : OpR X (compareOp .In) (rInDn X.K false) := op_inD (by have := d.hr.un; omega)
theorem op_notInDp (d : DX X G W k) : OpR X (compareOp .NotIn) (rInDn X.K true) := op_notInD (by have := d.hr.un; omega)
theorem s_inDp {K : PySem.W.Frag} {neg : Bool} : OpS K G W (inDp neg) (rInDn K neg) := by
  intro φ S σ H d1 d2 v1 v2 Q em r1 r2 h
  unfold inDp at h
  split at h
  · rename_i d ds e1 e2
    split at h
    · rename_i hs
      have q := outR.ok (R := rE K G) h em .bl
      cases neg with
      | false => exact ⟨d, ds, pd_dp em 8 _ _ _ r1 e1, pd_dp em 8 _ _ _ r2 e2, hs.1, hs.2, q⟩
      | true => exact ⟨d, ds, pd_dp em 8 _ _ _ r1 e1, pd_dp em 8 _ _ _ r2 e2, hs.1, hs.2, q⟩
    · exact h.elim
  · exact h.elim
end
theorem pyAll_map : ∀ {ds : List D}, pyAll ds = ds.map D.py
  | [] => rfl
  | d :: ds => by rw [pyAll, pyAll_map, List.map_cons]
theorem inDp_dat {x : D} {ys : List D} {S : Sto} [Decidable (x ∈ ys)] (hx : x.dat = true) (hy : datAll ys = true) (dx : x.dep ≤ 8) (dy : depAll ys ≤ 7) : inDp false x (.vl ys) S = .ok (.bl (decide (x ∈ ys))) S := by
  have px := dat_pd (S := S) hx dx
  have hv : (D.vl ys).dat = true := by rw [dat_vl]; exact hy
  have py := dat_pd (S := S) hv (n := 8) (by rw [dep_vl]; omega)
  have e : (D.vl ys).py = .list (pyAll ys) := by simp only [D.py]
  rw [e] at py
  have s1 := shaped_pd px (dat_lay hx).1
  have s2 := shaped_pd py (by have := (dat_lay hv).1; rw [e] at this; exact this)
  unfold inDp
  rw [px, py]
  dsimp only
  rw [if_pos ⟨s1, s2⟩]
  have : (pyAll ys).any (fun z => PyData.eqv z x.py) = decide (x ∈ ys) := by
    rw [pyAll_map, List.any_map]
    by_cases h : x ∈ ys
    · rw [decide_eq_true h]
      exact List.any_eq_true.mpr ⟨x, h, eqv_refl (dat_lay hx).1⟩
    · rw [decide_eq_false h]
      refine List.any_eq_false.mpr fun z hz q => h ?_
      have hzd := datAll_mem.mp hy z hz
      rw [← py_inj hzd hx (eqv_eq (dat_lay hzd).2 (dat_lay hx).2 q)]
      exact hz
  rw [this]
  rfl
/-! -x -/
theorem r_op1 {f : D → Sto → Res D} {a : MEx} {ρ : Rho} {S : Sto} : mOp1 f a ρ S = (a ρ S).bind f := rfl
theorem neg_int {i : Int} {S : Sto} : negD (.int i) S = .ok (.int (-i)) S := rfl
end MP

set_option Elab.async false
set_option linter.all false
set_option maxRecDepth 100000
set_option maxHeartbeats 4000000
namespace MP
open PySem L2 PyProof.Rows
/-! ### tuples with dicts in them that are equal, value by value -/
inductive EqV (K : PySem.W.Frag) (H : Hp) : Nat → V → V → Prop
  | dat {n : Nat} {x y : V} {d e : PyData} : Dp K H x d → Dp K H y e → d.canLay0 = true → e.canLay0 = true → d.depth ≤ 40 → PyData.eqv d e = true → EqV K H n x y
  | dct {n : Nat} {a b : Addr} {ks ls : List (Key × V)} (f : Key × V → V) : H a = some (.dK ks) → H b = some (.dK ls) → ks.length = ls.length → (∀ p ∈ ks, valV ls p.1 = some (f p)) → (∀ p ∈ ks, EqV K H n p.2 (f p)) → EqV K H (n + 1) (.ref a) (.ref b)
  | tup {n : Nat} {a b : Addr} {xs ys : List V} : SqT K H a xs → SqT K H b ys → xs.length = ys.length → (∀ (j : Nat) x y, xs[j]? = some x → ys[j]? = some y → EqV K H n x y) → EqV K H (n + 1) (.ref a) (.ref b)
section
variable {X : Cx} {G : Ga} {W : WX} {k : Nat}
theorem eqv_tree {pins : List (Addr × Obj)} {σ : L2.St} {H : Hp} {s : Shared} (I : Inv X pins σ H s) {n : Nat} {x y : V} (h : EqV X.K H n x y) : ∀ {v u : Value}, RelV x v → RelV y u → PySem.W.EqTree X.prog X.w s (41 + n) v u true := by
  induction h with
  | @dat n x y d e hd he sd se dd eq =>
    intro v u r1 r2
    refine .leaf fun A hu => ?_
    obtain ⟨as, q1⟩ := Dp.reads I d x v hd r1
    obtain ⟨bs, q2⟩ := Dp.reads I e y u he r2
    have ea := SeqAt.eqAt_reads d e A s v u as bs q1 q2 sd se (by
      have := Nat.min_le_left d.depth e.depth
      omega)
    rw [eq] at ea
    exact ea
  | @dct n a b ks ls f ea eb hl hf _ ih =>
    intro v u r1 r2
    obtain rfl : v = Value.ref a := r1
    obtain rfl : u = Value.ref b := r2
    obtain ⟨_, ya, va, ra, da⟩ := (show ObjOk X.prog X.w H s.heap a (.dK ks) from I.hok a _ ea)
    obtain ⟨_, yb, vb, rb, db⟩ := (show ObjOk X.prog X.w H s.heap b (.dK ls) from I.hok b _ eb)
    by_cases hab : a = b
    · subst hab; exact .same
    have la : ks.length = va.length := ra.length
    have lb : ls.length = vb.length := rb.length
    have mem : ∀ (k : Key) v, (k, v) ∈ va → ∃ p ∈ ks, p.1 = k ∧ RelV p.2 v := by
      have gen : ∀ {ks : List (Key × V)} {va : List (Key × Value)}, KV ks va → ∀ (k : Key) v, (k, v) ∈ va → ∃ p ∈ ks, p.1 = k ∧ RelV p.2 v := by
        intro ks va r
        unfold KV at r
        induction r with
        | nil => intro k v hm; cases hm
        | @cons p q ps qs h t ih =>
          intro k v hm
          rcases List.mem_cons.mp hm with e | e
          · refine ⟨p, List.mem_cons_self, ?_, ?_⟩
            · rw [h.1, ← e]
            · have := h.2; rw [← e] at this; exact this
          · obtain ⟨p', h1, h2⟩ := ih k v e
            exact ⟨p', List.mem_cons_of_mem _ h1, h2⟩
      exact gen ra
    have at_ : ∀ p ∈ ks, ∃ y, valueAt vb p.1 = some y ∧ RelV (f p) y := fun p hp => by
      have rr : RelO (some (f p)) (valueAt vb p.1) := by rw [← hf p hp]; exact rb.val p.1
      exact rr.some_of
    have t := PySem.W.EqTree.dicts (prog := X.prog) (w := X.w) (s := s) (n := 41 + n) (knd := mixKind X.prog X.w) (e := fun _ => true) hab ya yb da db fun k v y hm hv => by
      obtain ⟨p, hp, rfl, rv⟩ := mem k v hm
      obtain ⟨y', e1, ry⟩ := at_ p hp
      rw [e1] at hv
      cases hv
      exact ih p hp rv ry
    have e1 : (va.length == vb.length && va.all fun p => (valueAt vb p.1).isSome && true) = true := by
      rw [← la, ← lb, hl, beq_self_eq_true, Bool.true_and]
      refine List.all_eq_true.mpr fun q hq => ?_
      obtain ⟨k, v⟩ := q
      obtain ⟨p, hp, rfl, _⟩ := mem k v hq
      obtain ⟨y', e1, _⟩ := at_ p hp
      show ((valueAt vb p.1).isSome && true) = true
      rw [e1]
      rfl
    rw [e1] at t
    exact t
  | @tup n a b xs ys ha hb hl _ ih =>
    intro v u r1 r2
    obtain rfl : v = Value.ref a := r1
    obtain rfl : u = Value.ref b := r2
    by_cases hab : a = b
    · subst hab; exact .same
    obtain ⟨is1, v1, t1, _⟩ := I.tuple ha
    obtain ⟨is2, v2, t2, _⟩ := I.tuple hb
    have l1 := v1.length
    have l2 := v2.length
    have t := PySem.W.EqTree.tuples (prog := X.prog) (w := X.w) (s := s) (n := 41 + n) (e := fun _ => true) hab t1 t2 fun j h1 h2 => by
      have h1' : j < is1.length := by simpa using h1
      have h2' : j < is2.length := by simpa using h2
      obtain ⟨z1, e1, q1⟩ := v1.get (i := j) (x := xs[j]) (List.getElem?_eq_getElem (by omega))
      obtain ⟨z2, e2, q2⟩ := v2.get (i := j) (x := ys[j]) (List.getElem?_eq_getElem (by omega))
      have f1 : is1.toArray[j] = z1 := by
        have := (List.getElem?_eq_some_iff.mp e1).2
        simpa using this
      have f2 : is2.toArray[j] = z2 := by
        have := (List.getElem?_eq_some_iff.mp e2).2
        simpa using this
      rw [f1, f2]
      exact ih j _ _ (List.getElem?_eq_getElem (by omega)) (List.getElem?_eq_getElem (by omega)) q1 q2
    have e1 : ((List.range (min is1.toArray.size is2.toArray.size)).all (fun _ => true) && is1.toArray.size == is2.toArray.size) = true := by
      have : is1.toArray.size = is2.toArray.size := by simp; omega
      rw [this, beq_self_eq_true, Bool.and_true]
      exact List.all_eq_true.mpr fun _ _ => rfl
    rw [e1] at t
    exact t
def rEqX (K : PySem.W.Frag) : R2 := fun x y H Q => ∃ a b xs ys, x = .ref a ∧ y = .ref b ∧ SqT K H a xs ∧ SqT K H b ys ∧ xs.length = ys.length ∧ (∀ (j : Nat) x y, xs[j]? = some x → ys[j]? = some y → EqV K H 3 x y) ∧ Q (.bl true) H
theorem op_eqX (d : DX X G W k) : OpR X (compareOp .Eq) (rEqX X.K) := by
  intro pins s σ H x y v u Q I rx ry h
  obtain ⟨a, b, xs, ys, rfl, rfl, ha, hb, hl, he, q⟩ := h
  obtain rfl : v = Value.ref a := rx
  obtain rfl : u = Value.ref b := ry
  obtain ⟨is1, v1, t1, _⟩ := I.tuple ha
  obtain ⟨is2, v2, t2, _⟩ := I.tuple hb
  have l1 := v1.length
  have l2 := v2.length
  have hu := d.hr.un
  refine PySem.W.eq_tuplesT (n := 44) (e := fun _ => true) t1 t2 (fun j h1 h2 => ?_) (by omega) ?_
  · have h1' : j < is1.length := by simpa using h1
    have h2' : j < is2.length := by simpa using h2
    obtain ⟨z1, e1, q1⟩ := v1.get (i := j) (x := xs[j]) (List.getElem?_eq_getElem (by omega))
    obtain ⟨z2, e2, q2⟩ := v2.get (i := j) (x := ys[j]) (List.getElem?_eq_getElem (by omega))
    have f1 : is1.toArray[j] = z1 := by
      have := (List.getElem?_eq_some_iff.mp e1).2
      simpa using this
    have f2 : is2.toArray[j] = z2 := by
      have := (List.getElem?_eq_some_iff.mp e2).2
      simpa using this
    rw [f1, f2]
    exact eqv_tree I (n := 3) (he j _ _ (List.getElem?_eq_getElem (by omega)) (List.getElem?_eq_getElem (by omega))) q1 q2
  · have e1 : ((List.range (min is1.toArray.size is2.toArray.size)).all (fun _ => true) && is1.toArray.size == is2.toArray.size) = true := by
      have : is1.toArray.size = is2.toArray.size := by simp; omega
      rw [this, beq_self_eq_true, Bool.and_true]
      exact List.all_eq_true.mpr fun _ _ => rfl
    rw [e1]
    exact ⟨.bl true, H, I, rfl, q⟩
def eqE (S : Sto) : Nat → D → D → Bool
  | 0, x, y => eqB S x y
  | n + 1, x, y => eqB S x y || (match dctU S x, dctU S y with
    | some ks, some ls => decide (ks.length = ls.length) && ks.all fun kv => match valD ls kv.1 with
      | some d => eqE S n kv.2 d
      | none => false
    | _, _ => false)
def eqX (x y : D) (S : Sto) : Res D := match x, y with
  | .tup xs, .tup ys => if xs.length = ys.length ∧ (xs.zip ys).all (fun p => eqE S 3 p.1 p.2) = true then .ok (.bl true) S else .stuck
  | _, _ => .stuck
theorem eqB_ok {K : PySem.W.Frag} {φ : List Addr} {S : Sto} {H : Hp} (em : Emb K G φ S H) {n : Nat} {x y : D} {v u : V} (r1 : RV K G H φ x v) (r2 : RV K G H φ y u) (h : eqB S x y = true) : EqV K H n v u := by
  unfold eqB at h
  split at h
  · rename_i p q e1 e2
    simp only [Bool.and_eq_true, decide_eq_true_eq] at h
    exact .dat (pd_dp em 8 _ _ _ r1 e1) (pd_dp em 8 _ _ _ r2 e2) h.1.1.1 h.1.1.2 h.1.2 h.2
  · cases h
open Classical in
theorem eqE_ok {K : PySem.W.Frag} {φ : List Addr} {S : Sto} {H : Hp} (em : Emb K G φ S H) : ∀ (n : Nat) {x y : D} {v u : V}, RV K G H φ x v → RV K G H φ y u → eqE S n x y = true → EqV K H n v u
  | 0, _, _, _, _, r1, r2, h => eqB_ok em r1 r2 h
  | n + 1, x, y, v, u, r1, r2, h => by
    unfold eqE at h
    rcases (Bool.or_eq_true _ _).mp h with h | h
    · exact eqB_ok em r1 r2 h
    · split at h
      · rename_i ks ls e1 e2
        obtain ⟨hl, ha⟩ := (Bool.and_eq_true _ _).mp h
        obtain ⟨p1, vs, rfl, h1, k1⟩ := dctU_ok em r1 e1
        obtain ⟨p2, us, rfl, h2, k2⟩ := dctU_ok em r2 e2
        have key : ∀ p ∈ vs, ∃ w, valV us p.1 = some w ∧ EqV K H n p.2 w := fun p hp => by
          obtain ⟨kv, m1, m2, m3⟩ := k1.mem p hp
          have q := List.all_eq_true.mp ha kv m1
          split at q
          · rename_i d ed
            obtain ⟨w, w1, w2⟩ := (k2.val kv.1).1 d ed
            exact ⟨w, by rw [← m2]; exact w1, eqE_ok em n m3 w2 q⟩
          · cases q
        exact .dct (fun p => if hp : p ∈ vs then (key p hp).choose else .non) h1 h2 (by rw [← k1.length, ← k2.length]; exact of_decide_eq_true hl) (fun p hp => by rw [dif_pos hp]; exact (key p hp).choose_spec.1) (fun p hp => by rw [dif_pos hp]; exact (key p hp).choose_spec.2)
      · cases h
theorem s_eqX {K : PySem.W.Frag} : OpS K G W eqX (rEqX K) := by
  intro φ S σ H d1 d2 v1 v2 Q em r1 r2 h
  unfold eqX at h
  split at h
  · split at h
    · rename_i xs ys hs
      have q := outR.ok (R := rE K G) h em .bl
      cases r1 with
      | tup s1 rs1 =>
        cases r2 with
        | tup s2 rs2 =>
          refine ⟨_, _, _, _, rfl, rfl, s1, s2, by rw [← RVs.length rs1, ← RVs.length rs2]; exact hs.1, fun j x y ex ey => ?_, q⟩
          have lx := (List.getElem?_eq_some_iff.mp ex).1
          rw [← RVs.length rs1] at lx
          have ly := (List.getElem?_eq_some_iff.mp ey).1
          rw [← RVs.length rs2] at ly
          obtain ⟨x', e1, q1⟩ := RVs.get rs1 (List.getElem?_eq_getElem lx)
          obtain ⟨y', e2, q2⟩ := RVs.get rs2 (List.getElem?_eq_getElem ly)
          rw [ex] at e1; cases e1
          rw [ey] at e2; cases e2
          refine eqE_ok em 3 q1 q2 ?_
          exact List.all_eq_true.mp hs.2 (xs[j], ys[j]) (List.mem_iff_getElem?.mpr ⟨j, by rw [List.getElem?_zip_eq_some]; exact ⟨List.getElem?_eq_getElem lx, List.getElem?_eq_getElem ly⟩⟩)
    · exact h.elim
  · exact h.elim
end
end MP

set_option Elab.async false
set_option linter.all false
set_option maxRecDepth 100000
set_option maxHeartbeats 4000000
namespace MP
open PySem L2 PyProof.Rows
section
variable {X : Cx} {G : Ga} {W : WX} {k : Nat}
/-! ### all, any of a list of truths -/
def blsOf : List D → Option (List Bool)
  | [] => some []
  | .bl b :: r => (blsOf r).map (b :: ·)
  | _ => none
theorem blsOf_map : ∀ bs : List Bool, blsOf (bs.map D.bl) = some bs
  | [] => rfl
  | b :: r => by simp [blsOf, blsOf_map r]
theorem blsOf_ok : ∀ {xs : List D} {bs : List Bool}, blsOf xs = some bs → xs = bs.map D.bl
  | [], bs, h => by cases h; rfl
  | .bl b :: r, bs, h => by
    simp only [blsOf] at h
    obtain ⟨cs, hc, rfl⟩ := Option.map_eq_some_iff.mp h
    rw [blsOf_ok hc]; rfl
theorem rvs_bls {K : PySem.W.Frag} {H : Hp} {φ : List Addr} : ∀ {bs : List Bool} {vs : List V}, RVs K G H φ (bs.map D.bl) vs → vs = bs.map V.bl
  | [], _, .nil => rfl
  | b :: r, _, .cons a t => by
    cases a
    rw [rvs_bls t]; rfl
def blO (f : List Bool → Bool) (o : Option (List D)) (S : Sto) : Res D := match o with
  | some xs => match blsOf xs with
    | some bs => .ok (.bl (f bs)) S
    | none => .stuck
  | none => .stuck
def cAll (ds : List D) (S : Sto) : Res D := match ds with
  | [d] => blO (·.all id) (lstO S d) S
  | _ => .stuck
def cAny (ds : List D) (S : Sto) : Res D := match ds with
  | [d] => blO (·.any id) (lstO S d) S
  | _ => .stuck
theorem s_all {K : PySem.W.Frag} : CallS K G W cAll (rAll K) := by
  intro φ S σ H ds vs Q em r h
  unfold cAll at h
  split at h
  · rename_i d
    cases r with
    | @cons _ v _ _ a b =>
      cases b
      unfold blO at h
      split at h
      · rename_i xs es
        split at h
        · rename_i bs e
          obtain ⟨p, ws, rfl, sq, rv⟩ := lst_ok em a es
          rw [blsOf_ok e] at rv
          rw [rvs_bls rv] at sq
          exact ⟨p, bs, rfl, sq, outR.ok (R := rE K G) h em .bl⟩
        · exact h.elim
      · exact h.elim
  · exact h.elim
theorem s_any {K : PySem.W.Frag} : CallS K G W cAny (rAny K) := by
  intro φ S σ H ds vs Q em r h
  unfold cAny at h
  split at h
  · rename_i d
    cases r with
    | @cons _ v _ _ a b =>
      cases b
      unfold blO at h
      split at h
      · rename_i xs es
        split at h
        · rename_i bs e
          obtain ⟨p, ws, rfl, sq, rv⟩ := lst_ok em a es
          rw [blsOf_ok e] at rv
          rw [rvs_bls rv] at sq
          exact ⟨p, bs, rfl, sq, outR.ok (R := rE K G) h em .bl⟩
        · exact h.elim
      · exact h.elim
  · exact h.elim
/-! ### a dict display of texts -/
def sKV (kvs : List (Str × Str)) : List (Key × D) := kvs.map fun p => (.inr p.1, .str p.2)
def mDctS (kvs : List (Str × Str)) : MEx := fun _ S => .ok (.loc S.length) (S ++ [.dct false (sKV kvs)])
theorem pairs_const {σ : L2.St} {Q : List (V × V) → Hp → Prop} : ∀ {kvs : List (Str × Str)} {H : Hp}, Q (kvs.map fun p => (V.str p.1, V.str p.2)) H → tPairs (kvs.map fun p => (tC (.str p.1), tC (.str p.2))) σ H Q
  | [], _, h => h
  | _ :: _, _, h => pairs_const (Q := fun ps H3 => Q (_ :: ps) H3) h
theorem upd_upd {H : Hp} {p : Addr} {a b : HO} : upd (upd H p a) p b = upd H p b := by
  funext q
  unfold upd
  split <;> rfl
theorem merge_nd : ∀ {more acc : List (Key × V)}, (∀ p ∈ more, valV acc p.1 = none) → more.Pairwise (fun a b => a.1 ≠ b.1) → mergeK acc more = acc ++ more
  | [], acc, _, _ => by simp [mergeK]
  | p :: r, acc, h, nd => by
    have h1 := putK_new p.2 (h p List.mem_cons_self)
    show mergeK (putK acc p.1 p.2) r = _
    rw [h1]
    rw [List.pairwise_cons] at nd
    rw [merge_nd (fun q hq => ?_) nd.2, List.append_assoc]
    · rfl
    · rw [valV_snoc _ _ _ _ (h p List.mem_cons_self), if_neg (fun z => nd.1 q hq z.symm)]
      exact h q (List.mem_cons_of_mem _ hq)
theorem d_dctS {keys : List (Option Expr)} {values : List Expr} {pos : Pos} (kvs : List (Str × Str)) (h : PPs X pos keys values (kvs.map fun p => (tC (.str p.1), tC (.str p.2)))) (hall : keys.all (·.isSome) = true := by rfl) (hl : keys.length = values.length := by rfl)
    (h0 : keys ≠ [] := by exact List.cons_ne_nil _ _) (h15 : keys.length ≤ 15 := by decide) (hk : kvs.length ≤ 15 := by decide) (nd : kvs.Pairwise (fun a b => a.1 ≠ b.1) := by decide) : PE X (.Dict keys values pos) (wpE X.K G W (mDctS kvs)) := by
  refine pe_conv (pe_disp h hall hl h0 h15) ?_
  rintro σ H Q ⟨φ, ρ, S, em, rs, h⟩ p hp
  apply pairs_const
  refine ⟨upd_same, kvs.map fun q => ((.inr q.1 : Key), V.str q.2), by rw [List.map_map]; rfl, by rw [List.length_map]; exact hk, ?_⟩
  rw [upd_upd, merge_nd (acc := []) (fun _ _ => rfl) (by rw [List.pairwise_map]; exact nd.imp fun h z => h (Sum.inr.inj z)), List.nil_append]
  have rk : ∀ (l : List (Str × Str)) (H' : Hp) (φ' : List Addr), RKs X.K G H' φ' id (sKV l) (l.map fun q => ((.inr q.1 : Key), V.str q.2)) := by
    intro l H' φ'
    induction l with
    | nil => exact .nil
    | cons a r ih => exact .cons .str ih
  refine h (φ ++ [p]) (.ref p) _ (.new hp) (em.new hp (.dct upd_same (rk _ _ _))) (.loc ?_)
  rw [← em.len]
  simp
/-! ### a dict of the text's top, texts to whole numbers -/
def kvI (kvs : List (Str × Int)) (x : Str) : Option Int := (kvs.find? fun p => decide (p.1 = x)).map (·.2)
structure DcT (P : Program) (w : World) (K : PySem.W.Frag) (mg : Str → Option Value) (x : Str) (kvs : List (Str × Int)) : Prop where
  ex : ∃ a, mg x = some (.ref a) ∧ (a == sysModules) = false ∧ ∃ f : Str → Option Value, (∀ h, K.In h → h.MapOf (strKind P w) a f) ∧ ∀ z, (f z).isSome = (kvI kvs z).isSome ∧ ∀ i, kvI kvs z = some i → ∃ t, f z = some (.int i t)
def kIn (neg : Bool) (kvs : List (Str × Int)) (d : D) (S : Sto) : Res D := match d with
  | .str z => .ok (.bl (if neg = true then !(kvI kvs z).isSome else (kvI kvs z).isSome)) S
  | _ => .stuck
def kGet (kvs : List (Str × Int)) (d : D) (S : Sto) : Res D := match d with
  | .str z => match kvI kvs z with
    | some i => .ok (.int i) S
    | none => .stuck
  | _ => .stuck
def rKin (neg : Bool) (a : Addr) (kvs : List (Str × Int)) : R2 := fun v u H Q => ∃ z, v = .str z ∧ u = .ref a ∧ Q (.bl (if neg = true then !(kvI kvs z).isSome else (kvI kvs z).isSome)) H
theorem kin_conv {neg : Bool} {a : Addr} {kvs : List (Str × Int)} {mi : MEx} (σ : L2.St) (H : Hp) (Q : VK) (h : wpE X.K G W (mOp1 (kIn neg kvs) mi) σ H Q) : tOp (rKin neg a kvs) (wpE X.K G W mi) (tC (.ref a)) σ H Q := by
  obtain ⟨φ, ρ, S, em, rs, h⟩ := h
  refine ⟨φ, ρ, S, em, rs, h.bind fun d S1 φ1 v H1 x em1 rv h1 => ?_⟩
  unfold kIn at h1
  split at h1
  · cases rv
    exact ⟨_, rfl, rfl, outR.ok (R := rE X.K G) h1 em1 .bl⟩
  · exact h1.elim
theorem op_knin {x : Str} {kvs : List (Str × Int)} {a : Addr} {f : Str → Option Value} (hs : (a == sysModules) = false) (hf : ∀ h, X.K.In h → h.MapOf (strKind X.prog X.w) a f) (hz : ∀ z, (f z).isSome = (kvI kvs z).isSome ∧ ∀ i, kvI kvs z = some i → ∃ t, f z = some (.int i t)) :
    OpR X (compareOp .NotIn) (rKin true a kvs) := by
  intro pins s σ H x y v u Q I rx ry h
  obtain ⟨z, rfl, rfl, q⟩ := h
  obtain ⟨t, rfl⟩ := rx
  obtain rfl : u = Value.ref a := ry
  refine wpAny_notIn_of (strKind_is X.prog X.w z t) hs (hf _ I.kIn) ⟨.bl (!(f z).isSome), H, I.tok _, rfl, ?_⟩
  rw [(hz z).1]
  exact q
theorem op_kin {x : Str} {kvs : List (Str × Int)} {a : Addr} {f : Str → Option Value} (hs : (a == sysModules) = false) (hf : ∀ h, X.K.In h → h.MapOf (strKind X.prog X.w) a f) (hz : ∀ z, (f z).isSome = (kvI kvs z).isSome ∧ ∀ i, kvI kvs z = some i → ∃ t, f z = some (.int i t)) :
    OpR X (compareOp .In) (rKin false a kvs) := by
  intro pins s σ H x y v u Q I rx ry h
  obtain ⟨z, rfl, rfl, q⟩ := h
  obtain ⟨t, rfl⟩ := rx
  obtain rfl : u = Value.ref a := ry
  refine wpAny_in_of (strKind_is X.prog X.w z t) hs (hf _ I.kIn) ⟨.bl (f z).isSome, H, I.tok _, rfl, ?_⟩
  rw [(hz z).1]
  exact q
section
variable {i : Expr} {mi : MEx} {x : Str} {p pos : Pos} {kvs : List (Str × Int)}
theorem d_knin (g : DcT X.prog X.w X.K X.mg x kvs) (hi : PE X i (wpE X.K G W mi)) (hg : Gl X x := by rfl) (hm : behindInMarks .NotIn (.Name x p) = false := by rfl) (hd : (x == ("__debug__" : Str)) = false := by decide) : PE X (.Compare i [.NotIn] [.Name x p] pos) (wpE X.K G W (mOp1 (kIn true kvs) mi)) := by
  obtain ⟨a, hm', hs, f, hf, hz⟩ := g.ex
  exact pe_conv (pe_cmpR (op_knin (x := x) hs hf hz) hi (pe_glob hg hm' (show RelV (.ref a) (.ref a) from rfl) hd) hm) kin_conv
theorem t_knin (g : DcT X.prog X.w X.K X.mg x kvs) (hi : PE X i (wpE X.K G W mi)) (hg : Gl X x := by rfl) (hm : behindInMarks .NotIn (.Name x p) = false := by rfl) (hd : (x == ("__debug__" : Str)) = false := by decide) : PT X (.Compare i [.NotIn] [.Name x p] pos) (wpT X.K G W (mTest (mOp1 (kIn true kvs) mi))) := by
  obtain ⟨a, hm', hs, f, hf, hz⟩ := g.ex
  exact pt_conv (pt_cmpR (op_knin (x := x) hs hf hz) hi (pe_glob hg hm' (show RelV (.ref a) (.ref a) from rfl) hd) hm) (test kin_conv)
theorem d_kin (g : DcT X.prog X.w X.K X.mg x kvs) (hi : PE X i (wpE X.K G W mi)) (hg : Gl X x := by rfl) (hm : behindInMarks .In (.Name x p) = false := by rfl) (hd : (x == ("__debug__" : Str)) = false := by decide) : PE X (.Compare i [.In] [.Name x p] pos) (wpE X.K G W (mOp1 (kIn false kvs) mi)) := by
  obtain ⟨a, hm', hs, f, hf, hz⟩ := g.ex
  exact pe_conv (pe_cmpR (op_kin (x := x) hs hf hz) hi (pe_glob hg hm' (show RelV (.ref a) (.ref a) from rfl) hd) hm) kin_conv
theorem t_kin (g : DcT X.prog X.w X.K X.mg x kvs) (hi : PE X i (wpE X.K G W mi)) (hg : Gl X x := by rfl) (hm : behindInMarks .In (.Name x p) = false := by rfl) (hd : (x == ("__debug__" : Str)) = false := by decide) : PT X (.Compare i [.In] [.Name x p] pos) (wpT X.K G W (mTest (mOp1 (kIn false kvs) mi))) := by
  obtain ⟨a, hm', hs, f, hf, hz⟩ := g.ex
  exact pt_conv (pt_cmpR (op_kin (x := x) hs hf hz) hi (pe_glob hg hm' (show RelV (.ref a) (.ref a) from rfl) hd) hm) (test kin_conv)
theorem d_kget (g : DcT X.prog X.w X.K X.mg x kvs) (hi : PE X i (wpE X.K G W mi)) (hg : Gl X x := by rfl) (hs' : PlainIx i := by exact fun _ _ => rfl) (hd : (x == ("__debug__" : Str)) = false := by decide) : PE X (.Subscript (.Name x p) i pos) (wpE X.K G W (mOp1 (kGet kvs) mi)) := by
  obtain ⟨a, hm', hs, f, hf, hz⟩ := g.ex
  have ix : IxR X (fun u v H Q => ∃ z n, u = .ref a ∧ v = .str z ∧ kvI kvs z = some n ∧ Q (.int n) H) := by
    intro value slice pins s σ H x y v u Q I rx ry h hs
    obtain ⟨z, n, rfl, rfl, e, q⟩ := h
    obtain rfl : v = Value.ref a := rx
    obtain ⟨t, rfl⟩ := ry
    obtain ⟨t2, e2⟩ := (hz z).2 n e
    have hm := hf _ I.kIn
    exact tail_any hm.typeIs slot_dict_getitem.lookup (wpAny_getItem_of (strKind_is X.prog X.w z t) hm e2 ⟨.int n, H, I.tok _, ⟨t2, rfl⟩, q⟩) hs
  refine pe_conv (pe_ix ix (pe_glob hg hm' (show RelV (.ref a) (.ref a) from rfl) hd) hi hs') ?_
  rintro σ H Q ⟨φ, ρ, S, em, rs, h⟩
  refine ⟨φ, ρ, S, em, rs, h.bind fun d S1 φ1 v H1 x em1 rv h1 => ?_⟩
  unfold kGet at h1
  split at h1
  · cases rv
    split at h1
    · rename_i n e
      exact ⟨_, n, rfl, rfl, e, outR.ok (R := rE X.K G) h1 em1 .int⟩
    · exact h1.elim
  · exact h1.elim
end
/-! the facts of the written part behind it -/
def itsI : List DictEntry → Option (List (Str × Int))
  | [] => some []
  | e :: r => match e.key, e.val with
    | .str x _, .int i _ => (itsI r).map ((x, i) :: ·)
    | _, _ => none
def dctI (K : PySem.W.Frag) (a : Addr) : Option (List (Str × Int)) := match K.lookup a with
  | some ⟨.type "dict", none, .dict es _, sl⟩ => if sl.size = 0 then itsI es.toList else none
  | _ => none
def hashI (K : PySem.W.Frag) (a : Addr) : List Int := match K.lookup a with
  | some ⟨_, _, .dict es _, _⟩ => es.toList.map (·.hash)
  | _ => []
theorem its_ok {P : Params} : ∀ {es : List DictEntry} {kvs : List (Str × Int)}, itsI es = some kvs → es.map (·.hash) = kvs.map (fun p => PyData.keyHash P p.1) → PySem.W.KeysLit P es ∧
    ∀ z, (findBy Value.isStrOf es.toArray z).isSome = (kvI kvs z).isSome ∧ ∀ i, kvI kvs z = some i → ∃ t, findBy Value.isStrOf es.toArray z = some (.int i t)
  | [], kvs, h, _ => by
    cases h
    exact ⟨trivial, fun z => ⟨rfl, fun i h => by cases h⟩⟩
  | e :: r, kvs, h, hh => by
    unfold itsI at h
    split at h
    · rename_i x t i t2 ek ev
      obtain ⟨ks, h1, rfl⟩ := Option.map_eq_some_iff.mp h
      simp only [List.map_cons, List.cons.injEq] at hh
      obtain ⟨a1, a2⟩ := its_ok h1 hh.2
      refine ⟨⟨⟨x, t, ek, hh.1⟩, a2 |> fun _ => a1⟩, fun z => ?_⟩
      have fb : findBy Value.isStrOf (e :: r).toArray z = if x = z then some (.int i t2) else findBy Value.isStrOf r.toArray z := by
        unfold findBy
        rw [List.find?_toArray, List.find?_toArray, List.find?_cons, ek]
        by_cases hx : x = z
        · subst hx
          simp [Value.isStrOf, ev]
        · have : Value.isStrOf z (.str x t) = false := by simp [Value.isStrOf]; first | exact hx | exact fun h => hx h.symm
          rw [this, if_neg hx]
      have kk : kvI ((x, i) :: ks) z = if x = z then some i else kvI ks z := by
        unfold kvI
        rw [List.find?_cons]
        by_cases hx : x = z <;> simp [hx]
      rw [fb, kk]
      by_cases hx : x = z
      · rw [if_pos hx, if_pos hx]
        exact ⟨rfl, fun j hj => by cases hj; exact ⟨t2, rfl⟩⟩
      · rw [if_neg hx, if_neg hx]
        exact a2 z
    · cases h
theorem DcT.of {P : Program} {w : World} {K : PySem.W.Frag} {mg : Str → Option Value} {x : Str} {kvs : List (Str × Int)} {a : Addr} (hm : mg x = some (.ref a)) (hs : (a == sysModules) = false) (h1 : dctI K a = some kvs) (h2 : hashI K a = kvs.map fun p => PyData.keyHash w.params p.1) : DcT P w K mg x kvs := by
  unfold dctI at h1
  split at h1
  · rename_i es n sl hl
    split at h1
    · rename_i hsl
      obtain rfl : sl = #[] := Array.eq_empty_of_size_eq_zero hsl
      unfold hashI at h2
      rw [hl] at h2
      obtain ⟨k1, k2⟩ := its_ok h1 h2
      refine ⟨a, hm, hs, _, fun h hK => PySem.W.mapOf_K hK hl k1, ?_⟩
      simpa using k2
    · cases h1
  · cases h1
end
end MP

set_option Elab.async false
set_option linter.all false
set_option maxRecDepth 100000
set_option maxHeartbeats 4000000
namespace MP
open PySem L2 PySem.Spec PyProof.Rows
/-! ### a tuple, not at all or once -/
theorem tuple_mul1 (l : Addr) (items : Array Value) (n : Nat) (dd : Option Addr) (sl : Array (Option Value)) (u : Tok) :
    Meets (Builtin.«tuple.__mul__» ⟨[.ref l, .int 1 u], []⟩) (fun _ R s => s.heap.get? l = some { cls := .type "tuple", dict := dd, data := .seq items n, slots := sl } ∧ R (.ok (.ret (Value.ref l))) s) :=
  .of_wp fun prog w A R s h => by
    obtain ⟨hp, g, d, tk, os⟩ := s
    obtain ⟨hl, h⟩ := h
    have f1 := AutoSeq1.idx_int
    wp_walk using wpAny_loadPart' hl
    exact ⟨_, rfl, h⟩
theorem tuple_mul0 (l : Addr) (items : Array Value) (n : Nat) (dd : Option Addr) (sl : Array (Option Value)) (u : Tok) (hi : items.isEmpty = false) :
    Meets (Builtin.«tuple.__mul__» ⟨[.ref l, .int 0 u], []⟩) (fun _ R s => s.heap.get? l = some { cls := .type "tuple", dict := dd, data := .seq items n, slots := sl } ∧
      R (.ok (.ret (Value.ref s.heap.objs.size))) { s with heap := s.heap.push { cls := Value.type "tuple", data := Data.seq #[] }, toks := s.toks }) :=
  .of_wp fun prog w A R s h => by
    obtain ⟨hp, g, d, tk, os⟩ := s
    obtain ⟨hl, h⟩ := h
    have f1 := AutoSeq1.idx_int
    wp_walk using wpAny_loadPart' hl
    exact ⟨_, rfl, h⟩
section
variable {X : Cx} {G : Ga} {W : WX} {k : Nat}
def rRep01 (K : PySem.W.Frag) : R2 := fun x y H Q => ∃ l xs, x = .ref l ∧ SqT K H l xs ∧ xs ≠ [] ∧ ((y = .int 1 ∧ Q (.ref l) H) ∨ (y = .int 0 ∧ ∀ p, H p = none → Q (.ref p) (upd H p (.tup []))))
theorem op_rep01 : OpR X (binaryOp .Mult) (rRep01 X.K) := by
  intro pins s σ H x y v u Q I rx ry h
  obtain ⟨l, xs, rfl, hT, hne, h⟩ := h
  cases rx
  obtain ⟨its, r, ⟨⟨cls, dd, data, sl⟩, ho, hc, n, hd⟩, hs⟩ := I.tuple hT
  simp only at hc hd
  subst hc hd
  have hle : its.length = xs.length := r.length.symm
  have hi : its.toArray.isEmpty = false := by
    cases its with
    | nil => exact absurd (List.eq_nil_of_length_eq_zero hle.symm) hne
    | cons a b => rfl
  rcases h with ⟨rfl, q⟩ | ⟨rfl, q⟩
  · obtain ⟨t, rfl⟩ := ry
    exact wpAny_binaryOp_repeat_ref (T := "tuple") (U := "int") (by decide) ⟨_, ho, rfl⟩ (fun s' => typeIs_int s' 1 t) noFill_tuple_mul F.fills_int_mul F.slot_int_rmul repeat_tuple F.slot_int_index.lookup
      (call_meets F.slot_int_rmul (typeIs_int s 1 t) F.entry_int_rmul (F.args_int_rmul_2 _ _) (int_rmul_tuple 1 t l its.toArray n dd sl)
        ⟨ho, rfl, ⟨_, ho, rfl⟩, call_meets F.slot_tuple_mul ⟨_, ho, rfl⟩ F.entry_tuple_mul (F.args_tuple_mul_2 _ _) (tuple_mul1 l its.toArray n dd sl t) ⟨ho, ⟨.ref l, H, I, rfl, q⟩⟩⟩)
  · obtain ⟨t, rfl⟩ := ry
    refine wpAny_binaryOp_repeat_ref (T := "tuple") (U := "int") (by decide) ⟨_, ho, rfl⟩ (fun s' => typeIs_int s' 0 t) noFill_tuple_mul F.fills_int_mul F.slot_int_rmul repeat_tuple F.slot_int_index.lookup
      (call_meets F.slot_int_rmul (typeIs_int s 0 t) F.entry_int_rmul (F.args_int_rmul_2 _ _) (int_rmul_tuple 0 t l its.toArray n dd sl)
        ⟨ho, rfl, ⟨_, ho, rfl⟩, call_meets F.slot_tuple_mul ⟨_, ho, rfl⟩ F.entry_tuple_mul (F.args_tuple_mul_2 _ _) (tuple_mul0 l its.toArray n dd sl t hi) ⟨ho, ?_⟩⟩)
    refine ⟨.ref s.heap.objs.size, _, I.laid (t' := s.toks) (o := .tup []) (fun b ob q => Heap.get?_push_of_some _ q) (Nat.le_refl _) ?_, rfl, q _ (I.hok.fresh (Nat.le_refl _))⟩
    exact ⟨Nat.zero_le _, [], .nil, IsTup.new _ _⟩
/-- a tuple, not at all or once -/
def mulT (x y : D) (S : Sto) : Res D := match x, y with
  | .tup (a :: xs), .int i => if i = 1 then .ok (.tup (a :: xs)) S else if i = 0 then .ok (.tup []) S else .stuck
  | _, _ => .stuck
theorem s_mulT {K : PySem.W.Frag} : OpS K G W mulT (rRep01 K) := by
  intro φ S σ H d1 d2 v1 v2 Q em r1 r2 h
  unfold mulT at h
  split at h
  · rename_i a xs i
    cases r2
    cases r1 with
    | tup s q =>
      have hne : ∀ {vs : List V}, RVs K G H φ (a :: xs) vs → vs ≠ [] := fun z e => by rw [e] at z; cases z
      split at h
      · rename_i hi
        subst hi
        exact ⟨_, _, rfl, s, hne q, .inl ⟨rfl, outR.ok (R := rE K G) h em (.tup s q)⟩⟩
      · split at h
        · rename_i hi
          subst hi
          exact ⟨_, _, rfl, s, hne q, .inr ⟨rfl, fun p hp => h φ _ _ (.other hp) (em.other hp) (.tup (.of upd_same) .nil)⟩⟩
        · exact h.elim
  · exact h.elim
theorem mulT_1 {a : D} {xs : List D} {S : Sto} : mulT (.tup (a :: xs)) (.int 1) S = .ok (.tup (a :: xs)) S := rfl
theorem mulT_0 {a : D} {xs : List D} {S : Sto} : mulT (.tup (a :: xs)) (.int 0) S = .ok (.tup []) S := rfl
end
end MP

set_option Elab.async false
set_option linter.all false
set_option maxRecDepth 100000
set_option maxHeartbeats 4000000
/-! list(reversed(list)) -/
namespace MPX
open PySem PySem.Spec PyProof.Rows
section
variable {prog : Program} {w : World} {A : Around} {E : Value → Shared → Prop} {s : Shared}
theorem wpAny_extend_rev {R : Result → Shared → Prop} (hh : A.handled = none) {it l : Addr} {items : Array Value} (hit : s.heap.IsRevIter it l ((items.size : Int) - 1)) (hl : s.heap.IsList l items) (hne : l ≠ it) (hn : items.size ≤ sizeLine) (S : Addr) (res : Value) (c₀ : Nat)
    (hS : s.heap.get? S = some { cls := .type "list", data := .seq #[] c₀ }) (hSi : S ≠ it) (hSl : S ≠ l)
    (hR : ∀ h' tk acc' c', (∀ b o, b ≠ S → b ≠ it → s.heap.get? b = some o → h'.get? b = some o) → h'.get? S = some { cls := .type "list", dict := none, data := .seq acc' c', slots := #[] } →
      ItemsOf (fun i v => items[items.size - 1 - i]? = some v) acc' items.size → R (.ok (.ret res)) { s with heap := h', toks := tk }) :
    wpAny (model prog w) A.in1 (Builtin.List.listExtendWith (.ref S) (.ref it) res)
      (fun fin s' => match fin with | .done f => R (.ok f) s' | .again c' => c'.quiet = true ∧ codeAny (model prog w) A c' R s') (fun e s' => R (.error e) s') s := by
  have W := (Walks.listRev (prog := prog) (w := w) (A := A.in1) hh it l hne items).toS
  have hSf : S ∉ [it, l] := by simp only [List.mem_cons, List.not_mem_nil, or_false, not_or]; exact ⟨hSi, hSl⟩
  have hT : s.TypeIs (.ref it) "list_reverseiterator" := hit.typeIs
  have h1 : Builtin.List.listSameRef (.ref S) (.ref it) = false := by simp [Builtin.List.listSameRef, hSi]
  unfold Builtin.List.listExtendWith
  refine wpAny_bind (wpAny_typeOf hT ?_)
  rw [if_neg (by rw [h1]; decide)]
  refine wpAny_bind (wpAny_pyIter_revIter hit ?_)
  refine wpAny_bind (wpAny_holding ?_)
  unfold Builtin.List.listLengthHint
  refine wpAny_bind (wpAny_specialOf hT RT.nolen_lri ?_)
  show wpAny _ A.in1 (specialOf (Value.ref it) (Str.ofString "__length_hint__") >>= _) _ _ _
  refine wpAny_bind (wpAny_specialOf hT RT.hint_lri ?_)
  generalize hid : ("list_reverseiterator.__length_hint__" : String) = id0
  wp_delta
  rw [show splitId id0 = some ("list_reverseiterator", "__length_hint__") from by subst hid; decide +kernel]
  subst hid
  refine wpAny_bind (wpAny_isInstance (b := true) hT (by rw [isSubtype_type]; kernel_rfl) ?_)
  refine wpAny_pure ?_
  rw [if_neg (by decide)]
  have e0 : ((items.size : Nat) : Int) - 1 - ((0 : Nat) : Int) = (items.size : Int) - 1 := by omega
  refine wpAny_pure ⟨plainId_quiet F.plain_extend_loop _, codeAny_extend_loopS W hn _ hSf _ items.size 0 _ _ _ rfl (Nat.zero_le _) ⟨Nat.zero_le _, by rw [e0]; exact hit, hl⟩ hS (ItemsOf.nil _) fun s' acc' c' hm hS' hacc => ?_⟩
  rw [Moved.eq_with hm]
  refine hR s'.heap s'.toks acc' c' (fun b ob hb hb2 e => hm.heap b ob (fun hmem => ?_) e) hS' hacc
  rcases List.mem_cons.mp hmem with e' | hmem
  · exact hb e'
  · exact hb2 (List.mem_singleton.mp hmem)
theorem wpAny_list_init_rev {R : Result → Shared → Prop} (hh : A.handled = none) {it l : Addr} {items : Array Value} (hit : s.heap.IsRevIter it l ((items.size : Int) - 1)) (hl : s.heap.IsList l items) (hne : l ≠ it) (hn : items.size ≤ sizeLine) (S : Addr)
    (hS : s.heap.get? S = some { cls := .type "list", data := .seq #[] }) (hSi : S ≠ it) (hSl : S ≠ l)
    (hR : ∀ h' tk acc' c', (∀ b o, b ≠ S → b ≠ it → s.heap.get? b = some o → h'.get? b = some o) → h'.get? S = some { cls := .type "list", dict := none, data := .seq acc' c', slots := #[] } →
      ItemsOf (fun i v => items[items.size - 1 - i]? = some v) acc' items.size → R (.ok (.ret .none)) { s with heap := h', toks := tk }) :
    wpAny (model prog w) A.in1 (Builtin.«list.__init__» ⟨[.ref S, .ref it], []⟩)
      (fun fin s' => match fin with | .done f => R (.ok f) s' | .again c' => c'.quiet = true ∧ codeAny (model prog w) A c' R s') (fun e s' => R (.error e) s') s := by
  show wpAny _ _ (do let old ← Builtin.List.listItems (.ref S); Builtin.List.listUpdate (.ref S) (fun _ => #[]); letGo old.toList.reverse; Builtin.List.listExtendWith (.ref S) (.ref it) .none) _ _ s
  refine wpAny_bind ?_
  unfold Builtin.List.listItems
  refine wpAny_bind (wpAny_seqItems hS rfl (wpAny_pure ?_))
  show wpAny _ _ (updateSeq S (fun _ => #[]) >>= fun _ => letGo (#[] : Array Value).toList.reverse >>= fun _ => Builtin.List.listExtendWith (.ref S) (.ref it) .none) _ _ s
  refine wpAny_bind (wpAny_updateSeq hS rfl ?_)
  have hS₂ := Heap.get?_update_self (Obj.mapSeq (fun _ => (#[] : Array Value))) hS rfl
  have oth : ∀ b o, b ≠ S → s.heap.get? b = some o → (s.heap.update S (Obj.mapSeq (fun _ => (#[] : Array Value)))).get? b = some o :=
    fun b o hb e => (Heap.get?_update_other _ _ (Ne.symm hb)).trans e
  refine wpAny_bind (wpAny_letGo ?_)
  have hl2 : (s.heap.update S (Obj.mapSeq (fun _ => (#[] : Array Value)))).IsList l items := by
    obtain ⟨o, ho, r⟩ := hl
    exact ⟨o, oth l o (Ne.symm hSl) ho, r⟩
  refine wpAny_extend_rev (s := { s with heap := s.heap.update S (Obj.mapSeq (fun _ => (#[] : Array Value))) }) hh (hit.at fun o e => oth it o (Ne.symm hSi) e) hl2 hne hn S .none _ hS₂ hSi hSl fun h' tk acc' c' hk hS' hacc => ?_
  exact hR h' tk acc' c' (fun b o hb hb2 e => hk b o hb hb2 (oth b o hb e)) hS' hacc
theorem call_list_rev {Q : Value → Shared → Prop} (hh : A.handled = none) {it l : Addr} {items : Array Value} (hit : s.heap.IsRevIter it l ((items.size : Int) - 1)) (hl : s.heap.IsList l items) (hne : l ≠ it) (hn : items.size ≤ sizeLine)
    (hQ : ∀ h' tk acc' c', (∀ b o, b ≠ it → s.heap.get? b = some o → h'.get? b = some o) →
      h'.get? s.heap.objs.size = some { cls := .type "list", dict := none, data := .seq acc' c', slots := #[] } → ItemsOf (fun i v => items[items.size - 1 - i]? = some v) acc' items.size → Q (.ref s.heap.objs.size) { s with heap := h', toks := tk }) :
    wpAny (model prog w) A (call (.type "list") [.ref it]) Q E s := by
  obtain ⟨oi, hoi, _⟩ := id hit
  obtain ⟨ol, hol, _⟩ := id hl
  have hSi : s.heap.objs.size ≠ it := Nat.ne_of_gt (Heap.lt_size hoi)
  have hSl : s.heap.objs.size ≠ l := Nat.ne_of_gt (Heap.lt_size hol)
  refine callType_codes (Q₁ := fun obj s₁ => obj = .ref s.heap.objs.size ∧ s₁ = { s with heap := s.heap.push { cls := .type "list", data := .seq #[] } }) F.called_list (F.typeCall_list_1 _) F.entry_list_init
    (code_list_new _ ⟨rfl, rfl⟩) fun obj s₁ h₁ => ?_
  obtain ⟨rfl, rfl⟩ := h₁
  have hS : (s.heap.push { cls := .type "list", data := .seq #[] }).get? s.heap.objs.size = some { cls := .type "list", data := .seq #[] } := Heap.get?_push_size _ rfl
  refine ⟨⟨_, hS, rfl⟩, F.args_list_init_2 _ _, wpAny_list_init_rev (A := A.in1) hh (hit.at fun o e => Heap.get?_push_of_some _ e) (hl.push _) hne hn _ hS hSi hSl fun h' tk acc' c' hk hS' hacc => ?_⟩
  exact ⟨rfl, hQ h' tk acc' c' (fun b o hb e => hk b o (Nat.ne_of_lt (Heap.lt_size e)) hb (Heap.get?_push_of_some _ e)) hS' hacc⟩
end
end MPX
namespace L2
open PySem PySem.Spec PyProof.Rows
section
variable {X : Cx}
/-- list(reversed(x)), x a list: a new list -/
def tLstRev (K : PySem.W.Frag) (te : TE) : TE := fun σ H Q => te σ H fun v H1 => ∃ (a : Addr) (xs : List V), v = .ref a ∧ SqL K H1 a xs ∧ xs.length ≤ sizeLine ∧ ∀ q, H1 q = none → Q (.ref q) (upd H1 q (.lst xs.reverse))
theorem pe_lstRev {e : Expr} {te : TE} {p p2 pos pos2 : Pos} (hc : X.calm = true) (hg : Gl X "list") (hm : X.mg "list" = none) (hg2 : Gl X "reversed") (hm2 : X.mg "reversed" = none) (he : PE X e te)
    (hs : starEach [e] X.env = (false, eval e X.env) :: starEach [] X.env := by rfl)
    (hs2 : starEach [.Call (.Name "reversed" p2) [e] [] pos2] X.env = (false, eval (.Call (.Name "reversed" p2) [e] [] pos2) X.env) :: starEach [] X.env := by rfl) :
    PE X (.Call (.Name "list" p) [.Call (.Name "reversed" p2) [e] [] pos2] [] pos) (tLstRev X.K te) := by
  refine ⟨fun pins s σ H Q I h => ?_⟩
  refine Call_ (ld_blt I hg hm boot_list (PyProof.Rows.callWith_type1 (args_cons (Call_ (ld_blt I hg2 hm2 PyProof.Rows.boot_reversed (PyProof.Rows.callWith_type1 (args_cons (thn (he.run pins s σ H _ I h) fun u s1 ⟨v, H1, I1, r1, q1⟩ => args_nil ?_) hs) hs rfl))) hs2) hs2 rfl))
  obtain ⟨a, xs, ev, hq, hxs, q⟩ := q1
  subst ev
  obtain rfl : u = Value.ref a := r1
  obtain ⟨its, rv, p', hz⟩ := I1.list hq
  refine call_reversed_list p'.isList (args_nil ?_)
  have k0 : ∀ b o, s1.heap.get? b = some o → (s1.heap.push (revObj a ((its.toArray.size : Int) - 1))).get? b = some o := fun b o e => Heap.get?_push_of_some _ e
  have I2 : Inv X pins σ H1 { s1 with heap := s1.heap.push (revObj a ((its.toArray.size : Int) - 1)) } := I1.kept (t' := s1.toks) k0
  obtain ⟨ol, hol, _⟩ := id p'.isList
  have hne : a ≠ s1.heap.objs.size := Nat.ne_of_lt (Heap.lt_size hol)
  have hsz : its.toArray.size ≤ sizeLine := by rw [List.size_toArray, ← rv.length]; exact hz
  refine MPX.call_list_rev (s := { s1 with heap := s1.heap.push (revObj a ((its.toArray.size : Int) - 1)) }) (I1.ok.hd hc) ⟨_, Heap.get?_push_size _ rfl, rfl, rfl⟩ (p'.isList.push _) hne hsz fun h' tk acc c' hk e' hi => ?_
  have hle : s1.heap.objs.size ≤ (s1.heap.push (revObj a ((its.toArray.size : Int) - 1))).objs.size := by rw [Heap.size_push]; exact Nat.le_succ _
  refine ⟨.ref (s1.heap.push (revObj a ((its.toArray.size : Int) - 1))).objs.size, upd H1 _ (.lst xs.reverse), I1.laid (t' := tk) (fun b o e => hk b o (Nat.ne_of_lt (Heap.lt_size e)) (k0 b o e)) hle (show ObjOk X.prog X.w _ _ _ (.lst xs.reverse) from ⟨by rw [List.length_reverse]; exact hz, acc.toList, c', RT.vals_rev rv hi, ?_⟩), rfl, q _ (I1.hok.fresh hle)⟩
  rw [Array.toArray_toList]
  exact e'
end
end L2
namespace MP
open PySem L2
section
variable {X : Cx} {G : Ga} {W : WX} {k : Nat}
def revD (tr : Bool) (d : D) (S : Sto) : Res D := match lstO S d with
  | some xs => if xs.length ≤ sizeLine then newL tr xs.reverse S else .stuck
  | none => .stuck
def mRev (tr : Bool) (m : MEx) : MEx := fun ρ S => (m ρ S).bind (revD tr)
theorem RVs.reverse {K : PySem.W.Frag} {H : Hp} {φ : List Addr} : ∀ {ds : List D} {vs : List V}, RVs K G H φ ds vs → RVs K G H φ ds.reverse vs.reverse
  | _, _, .nil => .nil
  | _, _, .cons a b => by rw [List.reverse_cons, List.reverse_cons]; exact RVs.append (RVs.reverse b) (.cons a .nil)
theorem d_revL {tr : Bool} {e : Expr} {m : MEx} {p p2 pos pos2 : Pos} (d : DX X G W k) (hm : X.mg "list" = none) (hm2 : X.mg "reversed" = none) (he : PE X e (wpE X.K G W m)) (hg : Gl X "list" := by rfl) (hg2 : Gl X "reversed" := by rfl)
    (hs : starEach [e] X.env = (false, eval e X.env) :: starEach [] X.env := by rfl)
    (hs2 : starEach [.Call (.Name "reversed" p2) [e] [] pos2] X.env = (false, eval (.Call (.Name "reversed" p2) [e] [] pos2) X.env) :: starEach [] X.env := by rfl) :
    PE X (.Call (.Name "list" p) [.Call (.Name "reversed" p2) [e] [] pos2] [] pos) (wpE X.K G W (mRev tr m)) := by
  refine pe_conv (pe_lstRev d.calm hg hm hg2 hm2 he hs hs2) ?_
  rintro σ H Q ⟨φ, ρ, S, em, rs, h⟩
  refine ⟨φ, ρ, S, em, rs, h.bind fun x S1 φ1 v H1 x1 em1 rv h1 => ?_⟩
  unfold revD at h1
  split at h1
  · rename_i xs e
    split at h1
    · rename_i hl
      obtain ⟨a, ws, rfl, hs, rv2⟩ := lst_ok em1 rv e
      exact ⟨a, ws, rfl, hs, by rw [← RVs.length rv2]; exact hl, fun q hq => h1.newL em1 (RVs.reverse rv2) hq⟩
    · exact h1.elim
  · exact h1.elim
theorem r_rev {tr : Bool} {m : MEx} {ρ : Rho} {S : Sto} : mRev tr m ρ S = (m ρ S).bind (revD tr) := rfl
theorem rev_vl {tr : Bool} {xs : List D} {S : Sto} (h : (xs.length ≤ sizeLine) = True) : revD tr (.vl xs) S = newL tr xs.reverse S := if_pos (by rw [h]; trivial)
/-! ### list(range(..)) -/
def rg1D (tr : Bool) (d : D) (S : Sto) : Res D := match d with
  | .int b => if -(2 ^ 62) ≤ b ∧ b ≤ 2 ^ 24 then newL tr (rngL 0 b.toNat) S else .stuck
  | _ => .stuck
def rg2D (tr : Bool) (d e : D) (S : Sto) : Res D := match d, e with
  | .int a, .int b => if -(2 ^ 62) ≤ a ∧ a < 2 ^ 62 ∧ -(2 ^ 62) ≤ b ∧ b < 2 ^ 62 ∧ (b - a).toNat ≤ 2 ^ 24 then newL tr (rngL a (b - a).toNat) S else .stuck
  | _, _ => .stuck
def mLR1 (tr : Bool) (m : MEx) : MEx := fun ρ S => (m ρ S).bind (rg1D tr)
def mLR2 (tr : Bool) (a b : MEx) : MEx := mOp2 (rg2D tr) a b
theorem rvs_rg {K : PySem.W.Frag} {H : Hp} {φ : List Addr} {a b : Int} : RVs K G H φ (rngL a (b - a).toNat) (rgV a b) := by
  unfold rngL rgV
  have : ∀ l : List Nat, RVs K G H φ (l.map fun k : Nat => D.int (a + k)) (l.map fun i => V.int (a + (i : Nat))) := fun l => by
    induction l with
    | nil => exact .nil
    | cons x r ih => exact .cons .int ih
  exact this _
theorem d_lrng1 {tr : Bool} {e : Expr} {m : MEx} {p p2 pos pos2 : Pos} (d : DX X G W k) (hm : X.mg "list" = none) (hm2 : X.mg "range" = none) (he : PE X e (wpE X.K G W m)) (hg : Gl X "list" := by rfl) (hg2 : Gl X "range" := by rfl)
    (hs : starEach [e] X.env = (false, eval e X.env) :: starEach [] X.env := by rfl)
    (hs2 : starEach [.Call (.Name "range" p2) [e] [] pos2] X.env = (false, eval (.Call (.Name "range" p2) [e] [] pos2) X.env) :: starEach [] X.env := by rfl) :
    PE X (.Call (.Name "list" p) [.Call (.Name "range" p2) [e] [] pos2] [] pos) (wpE X.K G W (mLR1 tr m)) := by
  refine pe_conv (pe_listRg d.calm hg hm (prg_1 hg2 hm2 he hs) hs2) ?_
  rintro σ H Q ⟨φ, ρ, S, em, rs, h⟩
  refine ⟨φ, ρ, S, em, rs, h.bind fun x S1 φ1 v H1 x1 em1 rv h1 => ?_⟩
  unfold rg1D at h1
  split at h1
  · rename_i b
    split at h1
    · rename_i hb
      cases rv
      have e0 : b.toNat = (b - 0).toNat := by rw [Int.sub_zero]
      rw [e0] at h1
      exact ⟨b, rfl, ⟨by decide, by decide, by omega, by omega, by omega⟩, fun q hq => h1.newL em1 rvs_rg hq⟩
    · exact h1.elim
  · exact h1.elim
theorem d_lrng2 {tr : Bool} {e f : Expr} {m n : MEx} {p p2 pos pos2 : Pos} (d : DX X G W k) (hm : X.mg "list" = none) (hm2 : X.mg "range" = none) (he : PE X e (wpE X.K G W m)) (hf : PE X f (wpE X.K G W n)) (hg : Gl X "list" := by rfl) (hg2 : Gl X "range" := by rfl)
    (na : starEach [e, f] X.env = (false, eval e X.env) :: starEach [f] X.env := by rfl) (nb : starEach [f] X.env = (false, eval f X.env) :: starEach [] X.env := by rfl) (hp : (backTo pos2 (starEach [f] X.env)).any (·.1) = false := by rfl)
    (hs2 : starEach [.Call (.Name "range" p2) [e, f] [] pos2] X.env = (false, eval (.Call (.Name "range" p2) [e, f] [] pos2) X.env) :: starEach [] X.env := by rfl) :
    PE X (.Call (.Name "list" p) [.Call (.Name "range" p2) [e, f] [] pos2] [] pos) (wpE X.K G W (mLR2 tr m n)) := by
  refine pe_conv (pe_listRg d.calm hg hm (prg_2 hg2 hm2 he hf na nb hp) hs2) ?_
  rintro σ H Q ⟨φ, ρ, S, em, rs, h⟩
  refine ⟨φ, ρ, S, em, rs, h.bind fun d1 S1 φ1 v1 H1 x1 em1 rv1 h1 => ?_⟩
  refine ⟨φ1, ρ, S1, em1, rs.ext x1, h1.bind fun d2 S2 φ2 v2 H2 x2 em2 rv2 h2 => ?_⟩
  unfold rg2D at h2
  split at h2
  · rename_i a b
    split at h2
    · rename_i hb
      cases rv1
      cases rv2
      exact ⟨a, b, rfl, rfl, hb, fun q hq => h2.newL em2 rvs_rg hq⟩
    · exact h2.elim
  · exact h2.elim
theorem r_lr1 {tr : Bool} {m : MEx} {ρ : Rho} {S : Sto} : mLR1 tr m ρ S = (m ρ S).bind (rg1D tr) := rfl
theorem r_lr2 {tr : Bool} {m n : MEx} {ρ : Rho} {S : Sto} : mLR2 tr m n ρ S = mOp2 (rg2D tr) m n ρ S := rfl
theorem lr1_ok {tr : Bool} {b : Int} {S : Sto} (h : -(2 ^ 62) ≤ b ∧ b ≤ 2 ^ 24) : rg1D tr (.int b) S = newL tr (rngL 0 b.toNat) S := if_pos h
theorem lr2_ok {tr : Bool} {a b : Int} {S : Sto} (h : -(2 ^ 62) ≤ a ∧ a < 2 ^ 62 ∧ -(2 ^ 62) ≤ b ∧ b < 2 ^ 62 ∧ (b - a).toNat ≤ 2 ^ 24) : rg2D tr (.int a) (.int b) S = newL tr (rngL a (b - a).toNat) S := if_pos h
/-! ### is True, is not True -/
open PyProof.Rows PySem.Spec in
theorem op_isB : OpR X (compareOp .Is) (fun x y H Q => ∃ b, y = .bl b ∧ ((∃ a, x = .bl a ∧ Q (.bl (a == b)) H) ∨ (x = .non ∧ Q (.bl false) H))) := by
  intro pins s σ H x y v u Q I rx ry h
  obtain ⟨b, rfl, ⟨a, rfl, q⟩ | ⟨rfl, q⟩⟩ := h
  · cases rx; cases ry
    exact is_bool (fin_bl I q rfl)
  · cases rx; cases ry
    exact wpAny_pure (fin_bl I q rfl)
open PyProof.Rows PySem.Spec in
theorem op_isNotB : OpR X (compareOp .IsNot) (fun x y H Q => ∃ b, y = .bl b ∧ ((∃ a, x = .bl a ∧ Q (.bl (!(a == b))) H) ∨ (x = .non ∧ Q (.bl true) H))) := by
  intro pins s σ H x y v u Q I rx ry h
  obtain ⟨b, rfl, ⟨a, rfl, q⟩ | ⟨rfl, q⟩⟩ := h
  · cases rx; cases ry
    exact isnot_bool (fin_bl I q rfl)
  · cases rx; cases ry
    exact wpAny_pure (fin_bl I q rfl)
def isBD (x y : D) (S : Sto) : Res D := match x, y with
  | .bl a, .bl b => .ok (.bl (a == b)) S
  | .non, .bl _ => .ok (.bl false) S
  | _, _ => .stuck
def isNotBD (x y : D) (S : Sto) : Res D := match x, y with
  | .bl a, .bl b => .ok (.bl (!(a == b))) S
  | .non, .bl _ => .ok (.bl true) S
  | _, _ => .stuck
theorem s_isB {K : PySem.W.Frag} : OpS K G W isBD (fun x y H Q => ∃ b, y = .bl b ∧ ((∃ a, x = .bl a ∧ Q (.bl (a == b)) H) ∨ (x = .non ∧ Q (.bl false) H))) := by
  intro φ S σ H d1 d2 v1 v2 Q em r1 r2 h
  unfold isBD at h
  split at h
  · cases r1; cases r2
    exact ⟨_, rfl, .inl ⟨_, rfl, outR.ok (R := rE K G) h em .bl⟩⟩
  · cases r1; cases r2
    exact ⟨_, rfl, .inr ⟨rfl, outR.ok (R := rE K G) h em .bl⟩⟩
  · exact h.elim
theorem s_isNotB {K : PySem.W.Frag} : OpS K G W isNotBD (fun x y H Q => ∃ b, y = .bl b ∧ ((∃ a, x = .bl a ∧ Q (.bl (!(a == b))) H) ∨ (x = .non ∧ Q (.bl true) H))) := by
  intro φ S σ H d1 d2 v1 v2 Q em r1 r2 h
  unfold isNotBD at h
  split at h
  · cases r1; cases r2
    exact ⟨_, rfl, .inl ⟨_, rfl, outR.ok (R := rE K G) h em .bl⟩⟩
  · cases r1; cases r2
    exact ⟨_, rfl, .inr ⟨rfl, outR.ok (R := rE K G) h em .bl⟩⟩
  · exact h.elim
theorem r_isB {a b : Bool} {S : Sto} : isBD (.bl a) (.bl b) S = .ok (.bl (a == b)) S := rfl
theorem r_isNotB {a b : Bool} {S : Sto} : isNotBD (.bl a) (.bl b) S = .ok (.bl (!(a == b))) S := rfl
theorem r_isBN {b : Bool} {S : Sto} : isBD .non (.bl b) S = .ok (.bl false) S := rfl
theorem r_isNotBN {b : Bool} {S : Sto} : isNotBD .non (.bl b) S = .ok (.bl true) S := rfl
/-! ### text.index(text), found -/
def ixS (x : D) (ys : List D) (S : Sto) : Res D := match x, ys with
  | .str a, [.str b] => match Txt.index0 a b with
    | some j => .ok (.int (j : Nat)) S
    | none => .stuck
  | _, _ => .stuck
end
end MP

set_option Elab.async false
set_option linter.all false
set_option maxRecDepth 100000
set_option maxHeartbeats 4000000
namespace MP
open PySem L2
section
variable {X : Cx} {G : Ga} {W : WX} {k : Nat}
/-! ### t + u, t[a:b] of any tuples -/
def catT (x y : D) (S : Sto) : Res D := match x, y with
  | .tup xs, .tup ys => if xs.length + ys.length ≤ sizeLine then .ok (.tup (xs ++ ys)) S else .stuck
  | _, _ => .stuck
theorem s_catT {K : PySem.W.Frag} : OpS K G W catT (rCatA K) := by
  intro φ S σ H d1 d2 v1 v2 Q em r1 r2 h
  unfold catT at h
  split at h
  · rename_i xs ys
    split at h
    · rename_i hl
      cases r1 with
      | tup s1 q1 =>
        cases r2 with
        | tup s2 q2 =>
          have e1 := RVs.length q1
          have e2 := RVs.length q2
          refine ⟨_, _, _, _, rfl, rfl, s1, s2, by rw [← e1, ← e2]; exact hl, fun z => ?_, fun _ z => ?_, fun _ _ p hp => h φ _ _ (.other hp) (em.other hp) (.tup (.of upd_same) (RVs.ext (.other hp) (RVs.append q1 q2)))⟩
          · rw [z] at e1
            have : xs = [] := List.length_eq_zero_iff.mp e1
            subst this
            exact outR.ok (R := rE K G) h em (.tup s2 q2)
          · rw [z] at e2
            have : ys = [] := List.length_eq_zero_iff.mp e2
            subst this
            rw [List.append_nil] at h
            exact outR.ok (R := rE K G) h em (.tup s1 q1)
    · exact h.elim
  · exact h.elim
theorem catT_ok {xs ys : List D} {S : Sto} (h : (xs.length + ys.length ≤ sizeLine) = True) : catT (.tup xs) (.tup ys) S = .ok (.tup (xs ++ ys)) S := if_pos (by rw [h]; trivial)
def slT (o : D) (lo hi : Option Int) (S : Sto) : Res D := match o with
  | .tup xs => .ok (.tup (cutD xs lo hi)) S
  | _ => .stuck
def mSlT (mo : MEx) (ml mh : MPt) : MEx := fun ρ S => (mo ρ S).bind fun o S1 => (ml ρ S1).bind fun lo S2 => (mh ρ S2).bind fun hi S3 => slT o lo hi S3
theorem cut_whole {xs : List D} {lo hi : Option Int} (h : HT.sIx xs.length 0 lo = 0 ∧ HT.sIx xs.length xs.length hi = xs.length) : cutD xs lo hi = xs := by
  unfold cutD
  rw [h.1, h.2]
  simp
theorem d_slT {e : Expr} {lo hi : Option Expr} {m : MEx} {ml mh : MPt} {p2 pos : Pos} (he : PE X e (wpE X.K G W m)) (hl : PO X lo (wp X.K G W rO ml)) (hh : PO X hi (wp X.K G W rO mh)) : PE X (.Subscript e (.Slice lo hi none p2) pos) (wpE X.K G W (mSlT m ml mh)) := by
  refine pe_conv (pe_slice sl_tupA he hl hh) ?_
  rintro σ H Q ⟨φ, ρ, S, em, rs, h⟩
  refine ⟨φ, ρ, S, em, rs, h.bind fun o S1 φ1 v H1 x em1 rv h1 => ?_⟩
  refine ⟨φ1, ρ, S1, em1, rs.ext x, h1.bind fun l S2 φ2 l' H2 x2 em2 rl h2 => ?_⟩
  refine ⟨φ2, ρ, S2, em2, (rs.ext x).ext x2, h2.bind fun u S3 φ3 u' H3 x3 em3 ru h3 => ?_⟩
  cases (show l = l' from rl)
  cases (show u = u' from ru)
  have rv3 := RV.ext (x2.trans x3) rv
  unfold slT at h3
  split at h3
  · cases rv3 with
    | tup s q =>
      have e := RVs.length q
      refine ⟨_, _, rfl, s, fun hw => ?_, fun _ p hp => h3 φ3 _ _ (.other hp) (em3.other hp) (.tup (.of upd_same) (RVs.ext (.other hp) (RVs.cut q l u)))⟩
      rw [← e] at hw
      rw [cut_whole hw] at h3
      exact outR.ok (R := rE X.K G) h3 em3 (.tup s q)
  · exact h3.elim
def kSlTA (r : Res D) (ml mh : MPt) (ρ : Rho) : Res D := r.bind fun o S1 => (ml ρ S1).bind fun lo S2 => (mh ρ S2).bind fun hi S3 => slT o lo hi S3
def kSlTB (r : Res (Option Int)) (o : D) (mh : MPt) (ρ : Rho) : Res D := r.bind fun lo S2 => (mh ρ S2).bind fun hi S3 => slT o lo hi S3
def kSlTC (r : Res (Option Int)) (o : D) (lo : Option Int) : Res D := r.bind fun hi S3 => slT o lo hi S3
theorem r_slT {mo : MEx} {ml mh : MPt} {ρ : Rho} {S : Sto} : mSlT mo ml mh ρ S = kSlTA (mo ρ S) ml mh ρ := rfl
theorem kSlTA_ok {d : D} {ml mh : MPt} {ρ : Rho} {S : Sto} : kSlTA (.ok d S) ml mh ρ = kSlTB (ml ρ S) d mh ρ := rfl
theorem kSlTB_ok {d : D} {lo : Option Int} {mh : MPt} {ρ : Rho} {S : Sto} : kSlTB (.ok lo S) d mh ρ = kSlTC (mh ρ S) d lo := rfl
theorem kSlTC_ok {d : D} {lo hi : Option Int} {S : Sto} : kSlTC (.ok hi S) d lo = slT d lo hi S := rfl
theorem slT_ok {xs : List D} {lo hi : Option Int} {S : Sto} : slT (.tup xs) lo hi S = .ok (.tup (cutD xs lo hi)) S := rfl
/-! ### text.index(text), found -/
def isStr (d : D) (_ : Sto) : Bool := match d with
  | .str _ => true
  | _ => false
theorem s_ixS {φ : List Addr} {S : Sto} {σ : L2.St} {H : Hp} {d : D} {ds : List D} {v : V} {vs : List V} {Q : VK} (em : Emb X.K G φ S H) (r1 : RV X.K G H φ d v) (r2 : RVs X.K G H φ ds vs) (h : outR X.K G W (rE X.K G) (ixS d ds S) φ σ H Q) : rIndexX W σ v vs H Q := by
  unfold ixS at h
  split at h
  · rename_i a b
    cases r1
    cases r2 with
    | cons r2 r3 =>
      cases r2
      cases r3
      split at h
      · rename_i j ej
        refine ⟨_, _, rfl, rfl, fun k hk => ?_, fun z => ?_⟩
        · rw [ej] at hk; cases hk
          exact outR.ok (R := rE X.K G) h em .int
        · rw [ej] at z; cases z
      · exact False.elim h
  · exact False.elim h
theorem d_ixS {o e : Expr} {es : List Expr} {mo : MEx} {ms : MAr} {apos cpos : Pos} (d : DX X G W k) (ho : PE X o (wpE X.K G W mo)) (ha : PA X (e :: es) (wpA X.K G W ms))
    (hbase : attributeBase o "index" X.env (eval o X.env) = eval o X.env := by rfl)
    (hfew : ((backTo cpos (starEach (e :: es) X.env)).all (fun x => !x.1) && (backToKw cpos (keywordEach [] X.env)).all (fun x => x.1.isSome)
      && decide ((e :: es).length + ([] : List Keyword).length + (if ([] : List Keyword).isEmpty then 0 else 1) < 30)) = true := by rfl)
    (hline : (apos.endLine == cpos.line) = true := by rfl) (hs : starEach (e :: es) X.env = (false, eval e X.env) :: starEach es X.env := by rfl) (hplain : (backTo cpos (starEach es X.env)).any (·.1) = false := by rfl) :
    PE X (.Call (.Attribute o "index" apos) (e :: es) [] cpos) (wpE X.K G W (mBM isStr ixS mo ms)) := by
  refine pe_conv (pe_bmS PySem.F.plainAttrs_str PySem.F.slot_str_index PySem.F.type_str_index (mt_indexX d.calm d.tk) ho ha hbase hfew hline hs hplain) ?_
  rintro σ H Q ⟨φ, ρ, S, em, rs, h⟩
  refine ⟨φ, ρ, S, em, rs, h.bind fun x S1 φ1 v H1 x1 em1 rv h1 => ?_⟩
  split at h1
  · rename_i hp
    refine ⟨?_, φ1, ρ, S1, em1, rs.ext x1, h1.bind fun ds S2 φ2 vs H2 x2 em2 rvs h2 => ?_⟩
    · cases x with
      | str a => cases rv; exact rfl
      | _ => cases hp
    · exact s_ixS em2 (RV.ext x2 rv) rvs h2
  · exact h1.elim
theorem ixS_ok {a b : Str} {j : Nat} {S : Sto} (h : Txt.index0 a b = some j) : ixS (.str a) [.str b] S = .ok (.int (j : Nat)) S := by
  simp only [ixS, h]
theorem isStr_str {a : Str} {S : Sto} : isStr (.str a) S = true := rfl
/-! ### a dict display, texts to whole numbers -/
def iKV (kvs : List (Str × Int)) : List (Key × D) := kvs.map fun p => (.inr p.1, .int p.2)
def mDctI (kvs : List (Str × Int)) : MEx := fun _ S => .ok (.loc S.length) (S ++ [.dct false (iKV kvs)])
theorem pairs_constI {σ : L2.St} {Q : List (V × V) → Hp → Prop} : ∀ {kvs : List (Str × Int)} {H : Hp}, Q (kvs.map fun p => (V.str p.1, V.int p.2)) H → tPairs (kvs.map fun p => (tC (.str p.1), tC (.int p.2))) σ H Q
  | [], _, h => h
  | _ :: _, _, h => pairs_constI (Q := fun ps H3 => Q (_ :: ps) H3) h
theorem d_dctI {keys : List (Option Expr)} {values : List Expr} {pos : Pos} (kvs : List (Str × Int)) (h : PPs X pos keys values (kvs.map fun p => (tC (.str p.1), tC (.int p.2)))) (hall : keys.all (·.isSome) = true := by rfl) (hl : keys.length = values.length := by rfl)
    (h0 : keys ≠ [] := by exact List.cons_ne_nil _ _) (h15 : keys.length ≤ 15 := by decide) (hk : kvs.length ≤ 15 := by decide) (nd : kvs.Pairwise (fun a b => a.1 ≠ b.1) := by decide) : PE X (.Dict keys values pos) (wpE X.K G W (mDctI kvs)) := by
  refine pe_conv (pe_disp h hall hl h0 h15) ?_
  rintro σ H Q ⟨φ, ρ, S, em, rs, h⟩ p hp
  apply pairs_constI
  refine ⟨upd_same, kvs.map fun q => ((.inr q.1 : Key), V.int q.2), by rw [List.map_map]; rfl, by rw [List.length_map]; exact hk, ?_⟩
  rw [upd_upd, merge_nd (acc := []) (fun _ _ => rfl) (by rw [List.pairwise_map]; exact nd.imp fun h z => h (Sum.inr.inj z)), List.nil_append]
  have rk : ∀ (l : List (Str × Int)) (H' : Hp) (φ' : List Addr), RKs X.K G H' φ' id (iKV l) (l.map fun q => ((.inr q.1 : Key), V.int q.2)) := by
    intro l H' φ'
    induction l with
    | nil => exact .nil
    | cons a r ih => exact .cons .int ih
  refine h (φ ++ [p]) (.ref p) _ (.new hp) (em.new hp (.dct upd_same (rk _ _ _))) (.loc ?_)
  rw [← em.len]
  simp
end
end MP

set_option Elab.async false
set_option linter.all false
set_option maxRecDepth 100000
set_option maxHeartbeats 4000000
namespace MP
open PySem L2
/-! ### the text by places -/
def top (i : Nat) : Stmt := PySem.Challenge.pw_heapsafe_k47_old_fence_holds.main.body.getD i (.Pass ⟨0, 0, 0, 0⟩)
abbrev st_law_cell_at : Stmt := top 34
abbrev st_law_cell_by : Stmt := top 36
abbrev st_law_cut : Stmt := top 35
abbrev st_law_brought : Stmt := top 40
abbrev st_law_give : Stmt := top 37
abbrev st_header : Stmt := top 20
abbrev st_words_cell : Stmt := top 30
abbrev st_Pair_sort_of : Stmt := inClass (top 6) 0
abbrev st_Plain_sort_of : Stmt := inClass (top 5) 1
abbrev st_Plain_words : Stmt := inClass (top 5) 3
abbrev st_Thing_fields : Stmt := inClass (top 4) 2
abbrev st_Thing_sort_of : Stmt := inClass (top 4) 1
abbrev st_Thing_words : Stmt := inClass (top 4) 5
abbrev st_laid : Stmt := top 31
abbrev st_Rooms_fill_in : Stmt := inClass (top 27) 3
abbrev st_Rooms_gap_in : Stmt := inClass (top 27) 1
abbrev st_Rooms_gap : Stmt := inClass (top 27) 2
abbrev st_Memory_put_in : Stmt := inClass (top 32) 3
abbrev st_law_made : Stmt := top 38
abbrev st_Thing_init : Stmt := inClass (top 4) 0
abbrev st_pair : Stmt := top 9
abbrev st_Plain_init : Stmt := inClass (top 5) 0
abbrev st_plain : Stmt := top 7
abbrev st_weak : Stmt := top 8
abbrev st_law_new : Stmt := top 39
abbrev st_is_marked : Stmt := top 23
abbrev st_Rooms_read : Stmt := inClass (top 27) 5
abbrev st_Memory_marked_at : Stmt := inClass (top 32) 9
abbrev st_has_words : Stmt := top 24
abbrev st_kind_in : Stmt := top 21
abbrev st_size_in : Stmt := top 22
abbrev st_with_mark : Stmt := top 25
abbrev st_Rooms_write : Stmt := inClass (top 27) 6
abbrev st_Memory_set_mark : Stmt := inClass (top 32) 10
abbrev st_Marking_shade : Stmt := inClass (top 18) 1
abbrev st_Memory_sort_at : Stmt := inClass (top 32) 6
abbrev st_Memory_first_field : Stmt := inClass (top 32) 7
abbrev st_Memory_set_field : Stmt := inClass (top 32) 11
abbrev st_is_thing : Stmt := top 3
abbrev st_named_by : Stmt := top 12
abbrev st_New_put_shades : Stmt := inClass (top 14) 2
abbrev st_Old_put_shades : Stmt := inClass (top 15) 3
abbrev st_law_put : Stmt := top 41
abbrev st_Fence_marks_new : Stmt := inClass (top 13) 1
abbrev st_Fence_shades_look : Stmt := inClass (top 13) 2
abbrev st_Marking_grey : Stmt := inClass (top 18) 5
abbrev st_made_of : Stmt := top 10
abbrev st_Memory_size_at : Stmt := inClass (top 32) 4
abbrev st_Memory_thing_at : Stmt := inClass (top 32) 8
abbrev st_Plain_holds : Stmt := inClass (top 5) 2
abbrev st_Thing_holds : Stmt := inClass (top 4) 3
abbrev st_Marking_step : Stmt := inClass (top 18) 2
abbrev st_Old_marks_new : Stmt := inClass (top 15) 1
abbrev st_Old_shades_look : Stmt := inClass (top 15) 2
abbrev st_law_deed : Stmt := top 42
abbrev st_law_closing : Stmt := top 43
abbrev st_law_held : Stmt := top 44
abbrev st_fence_of : Stmt := top 16
abbrev st_Marking_colour_of : Stmt := inClass (top 18) 6
abbrev st_Marking_init : Stmt := inClass (top 18) 0
abbrev st_Rooms_init : Stmt := inClass (top 27) 0
abbrev st_Memory_init : Stmt := inClass (top 32) 0
abbrev st_law : Stmt := top 45
/-! ### the mirrors -/
def c_NOTHING : List Str := ["nothing"]
def c_SORTS : List Str := ["plain", "weak", "pair"]
/-- 0 _law_script, 1 _law_k -/
noncomputable def b_law_cell_at : MSt :=
 (sSeq (sIf (mTest (mOp2 (cmpI ltI) (mVar 1) (mCB cLen (aCons (mVar 0) aNil))))
 (sRet (mOp2 getI (mVar 0) (mVar 1)))
 sNil)
 (sRet (mC (.int 0))))
noncomputable def f_law_cell_at : MFn := fnB 2 b_law_cell_at
/-- 0 _law_cell, 1 _law_free, 2 _law_number -/
noncomputable def b_law_cell_by : MSt :=
 (sSeq (sIf (mTest (mVar 1))
 (sRet (mVar 0))
 sNil)
 (sSeq (sSet 2 (mOp2 (intOp modI) (mOp2 (addD false) (mOp2 (mulD false) (mVar 0) (mC (.int 1583458089))) (mC (.int 7))) (mC (.int 2305843009213693951))))
 (sRet (mOp2 (intOp fdivI) (mOp2 (intOp modI) (mOp2 (mulD false) (mVar 2) (mC (.int 982451653))) (mC (.int 2305843009213693951))) (mC (.int 64))))))
noncomputable def f_law_cell_by : MFn := fnB 3 b_law_cell_by
/-- 0 _law_cell, 1 _law_sizes, 2 _law_found, 3 _law_number, 4 _law_size -/
noncomputable def b_law_cut : MSt :=
 (sSeq (sScp (sSeq (sSet 2 (mLst true aNil))
 (sSeq (sSet 3 (mCB cAbs (aCons (mVar 0) aNil)))
 (sClr [4, 3] (sFor (miL (mVar 1)) (.nm 4)
 (sSeq (sExpr (mBM isL lAppend (mVar 2) (aCons (mOp2 (intOp modI) (mVar 3) (mVar 4)) aNil)))
 (sClr [4] (sSet 3 (mOp2 (intOp fdivI) (mVar 3) (mVar 4))))))))))
 (sRet (mVar 2)))
noncomputable def f_law_cut : MFn := fnB 5 b_law_cut
/-- 0 _law_state, 1 _law_parts, 2 _law_way, 3 _law_one, 4 _law_two, 5 _law_three, 6 _law_at, 7 _law_shape -/
noncomputable def b_law_brought : MSt :=
 (sSeq (sAsg (.tp [2, 3, 4, 5, 6]) (mVar 1))
 (sSeq (sSet 7 (mOp2 dGet (mOp2 getI (mVar 0) (mC (.int 0))) (mOp2 dGet (mOp2 getI (mVar 0) (mC (.int 1))) (mVar 4))))
 (sSeq (sIf (tAnd' (mTest (mOp2 eqR (mVar 2) (mC (.int 5)))) (tAnd' (mTest (mOp2 eqR (mOp2 getI (mVar 7) (mC (.int 0))) (mC (.str "plain")))) (mTest (mOp2 (cmpI ltI) (mVar 6) (mCB cLen (aCons (mOp2 getI (mVar 7) (mC (.int 1))) aNil))))))
 (sRet (mAlt (mOp2 getI (mOp2 getI (mVar 7) (mC (.int 1))) (mVar 6)) (mOp2 dGet (mOp2 getI (mVar 7) (mC (.int 1))) (mVar 6))))
 sNil)
 (sSeq (sIf (tAnd' (mTest (mOp2 eqR (mVar 2) (mC (.int 6)))) (mTest (mOp2 eqR (mOp2 getI (mVar 7) (mC (.int 0))) (mC (.str "weak")))))
 (sRet (mOp2 getI (mOp2 getI (mVar 7) (mC (.int 1))) (mC (.int 0))))
 sNil)
 (sSeq (sIf (tAnd' (mTest (mOp2 eqR (mVar 2) (mC (.int 7)))) (tAnd' (mTest (mOp2 eqR (mOp2 getI (mVar 7) (mC (.int 0))) (mC (.str "pair")))) (mTest (mOp2 eqR (mOp2 getI (mOp2 getI (mVar 7) (mC (.int 1))) (mC (.int 0))) (mTup (aCons (mC (.str "thing")) (aCons (mDGet2 (mOp2 getI (mVar 0) (mC (.int 1))) (mVar 5) (mOp1 negD (mC (.int 1)))) aNil)))))))
 (sRet (mOp2 getI (mOp2 getI (mVar 7) (mC (.int 1))) (mC (.int 1))))
 sNil)
 (sSeq (sIf (mTest (mOp2 eqR (mVar 2) (mC (.int 8))))
 (sRet (mTup (aCons (mC (.str "thing")) (aCons (mOp2 dGet (mOp2 getI (mVar 0) (mC (.int 1))) (mVar 4)) aNil))))
 sNil)
 (sRet (mTup (aCons (mC (.str "nothing")) aNil)))))))))
noncomputable def f_law_brought : MFn := fnB 8 b_law_brought
/-- 0 _law_state, 1 _law_slot, 2 _law_value -/
noncomputable def b_law_give : MSt :=
 (sSeq (sExpr (mDPop2 (mOp2 getI (mVar 0) (mC (.int 1))) (mVar 1) (mC .non)))
 (sIf (mTest (mOp2 eqR (mOp2 getI (mVar 2) (mC (.int 0))) (mC (.str "thing"))))
 (sDPutM (mOp2 getI (mVar 0) (mC (.int 1))) (mVar 1) (mOp2 getI (mVar 2) (mC (.int 1))))
 sNil))
noncomputable def f_law_give : MFn := fnB 3 b_law_give
/-- 0 kind, 1 marked, 2 words, 3 size -/
noncomputable def b_header : MSt :=
 (sRet (mOp2 (intOp orI) (mOp2 (intOp orI) (mOp2 (intOp orI) (mVar 0) (mOp2 (intOp shlI) (mCB cInt (aCons (mVar 1) aNil)) (mC (.int 2)))) (mOp2 (intOp shlI) (mCB cInt (aCons (mVar 2) aNil)) (mC (.int 3)))) (mOp2 (intOp shlI) (mVar 3) (mC (.int 4)))))
noncomputable def f_header : MFn := fnB 4 b_header
/-- 0 words -/
noncomputable def b_words_cell : MSt :=
 (sSeq (sIf (mTest (mOp2 isD (mVar 0) (mC .non)))
 (sRet (mC (.tup (c_NOTHING.map .str))))
 sNil)
 (sRet (mTup (aCons (mC (.str "number")) (aCons (mVar 0) aNil)))))
noncomputable def f_words_cell : MFn := fnB 1 b_words_cell
/-- 0 self -/
noncomputable def b_Pair_sort_of : MSt :=
 (sRet (mC (.str "pair")))
noncomputable def f_Pair_sort_of : MFn := fnB 1 b_Pair_sort_of
/-- 0 self -/
noncomputable def b_Plain_sort_of : MSt :=
 (sRet (mC (.str "plain")))
noncomputable def f_Plain_sort_of : MFn := fnB 1 b_Plain_sort_of
/-- 0 self -/
noncomputable def b_Plain_words : MSt :=
 (sRet (mFld .last_words (mVar 0)))
noncomputable def f_Plain_words : MFn := fnB 1 b_Plain_words
/-- 0 self -/
noncomputable def b_Thing_fields : MSt :=
 (sRet (mCB (cList false) (aCons (mFld .row (mVar 0)) aNil)))
noncomputable def f_Thing_fields : MFn := fnB 1 b_Thing_fields
/-- 0 self -/
noncomputable def b_Thing_sort_of : MSt :=
 (sRet (mC (.str "weak")))
noncomputable def f_Thing_sort_of : MFn := fnB 1 b_Thing_sort_of
/-- 0 self -/
noncomputable def b_Thing_words : MSt :=
 (sRet (mC .non))
noncomputable def f_Thing_words : MFn := fnB 1 b_Thing_words
/-- 0 thing, 1 serial, 2 marked, 3 some, 4 kind -/
noncomputable def b_laid : MSt :=
 (sSeq (sScp (sSeq (sSet 3 (mLst true (aCons (mVar 1) aNil)))
 (sSeq (sIf (mTest (mOp2 eqR (mAlt (mMeth0 .Thing f_Thing_sort_of (mVar 0)) (mAlt (mMeth0 .Plain f_Plain_sort_of (mVar 0)) (mMeth0 .Pair f_Pair_sort_of (mVar 0)))) (mC (.str "plain"))))
 (sExpr (mBM isL lAppend (mVar 3) (aCons (mCall 1 f_words_cell (aCons (mAlt (mMeth0 .Thing f_Thing_words (mVar 0)) (mAlt (mMeth0 .Plain f_Plain_words (mVar 0)) (mMeth0 .Pair f_Thing_words (mVar 0)))) aNil)) aNil)))
 sNil)
 (sExpr (mBM isL lExtend (mVar 3) (aCons (mAlt (mMeth0 .Thing f_Thing_fields (mVar 0)) (mAlt (mMeth0 .Plain f_Thing_fields (mVar 0)) (mMeth0 .Pair f_Thing_fields (mVar 0)))) aNil))))))
 (sSeq (sSet 4 (mTix c_SORTS (aCons (mAlt (mMeth0 .Thing f_Thing_sort_of (mVar 0)) (mAlt (mMeth0 .Plain f_Plain_sort_of (mVar 0)) (mMeth0 .Pair f_Pair_sort_of (mVar 0)))) aNil)))
 (sRet (mOp2 (addD false) (mLst false (aCons (mCall 4 f_header (aCons (mVar 4) (aCons (mVar 2) (aCons (mOp2 isNotD (mAlt (mMeth0 .Thing f_Thing_words (mVar 0)) (mAlt (mMeth0 .Plain f_Plain_words (mVar 0)) (mMeth0 .Pair f_Thing_words (mVar 0)))) (mC .non)) (aCons (mOp2 (addD false) (mCB cLen (aCons (mVar 3) aNil)) (mC (.int 1))) aNil))))) aNil)) (mVar 3)))))
noncomputable def f_laid : MFn := fnB 5 b_laid
/-- 0 self, 1 place, 2 some, 3 at, 4 value -/
noncomputable def b_Rooms_fill_in : MSt :=
 (sClr [3, 4] (sFor (miEn (aCons (mVar 2) aNil)) (.tp [3, 4])
 (sClr [3, 4] (sSetL (mFld .inside (mVar 0)) (mOp2 (addD false) (mVar 1) (mVar 3)) (mVar 4)))))
noncomputable def f_Rooms_fill_in : MFn := fnB 5 b_Rooms_fill_in
/-- 0 self, 1 room, 2 length, 3 free, 4 place -/
noncomputable def b_Rooms_gap_in : MSt :=
 (sSeq (sSet 3 (mC (.int 0)))
 (sSeq (sClr [4, 3] (sFor (miR2 (aCons (mOp2 (mulD false) (mVar 1) (mFld .cells (mVar 0))) (aCons (mOp2 (mulD false) (mOp2 (addD false) (mVar 1) (mC (.int 1))) (mFld .cells (mVar 0))) aNil))) (.nm 4)
 (sSeq (sAug 3 (intOp addI) (mC (.int 1)))
 (sSeq (sIf (mTest (mOp2 isNotD (mOp2 getI (mFld .inside (mVar 0)) (mVar 4)) (mC .non)))
 (sSet 3 (mC (.int 0)))
 sNil)
 (sClr [4] (sIf (mTest (mOp2 eqR (mVar 3) (mVar 2)))
 (sRet (mOp2 (addD false) (mOp2 (intOp subI) (mVar 4) (mVar 2)) (mC (.int 1))))
 sNil))))))
 (sRet (mC .non))))
noncomputable def f_Rooms_gap_in : MFn := fnB 5 b_Rooms_gap_in
/-- 0 self, 1 length, 2 room, 3 place -/
noncomputable def b_Rooms_gap : MSt :=
 (sSeq (sClr [2, 3] (sFor (miR1 (aCons (mFld .many (mVar 0)) aNil)) (.nm 2)
 (sSeq (sSet 3 (mMeth .Rooms 3 f_Rooms_gap_in (mVar 0) (aCons (mVar 2) (aCons (mVar 1) aNil))))
 (sClr [2, 3] (sIf (mTest (mOp2 isNotD (mVar 3) (mC .non)))
 (sRet (mVar 3))
 sNil)))))
 (sRet (mC .non)))
noncomputable def f_Rooms_gap : MFn := fnB 4 b_Rooms_gap
/-- 0 self, 1 thing, 2 serial, 3 marked, 4 some, 5 place -/
noncomputable def b_Memory_put_in : MSt :=
 (sSeq (sSet 4 (mCall 3 f_laid (aCons (mVar 1) (aCons (mVar 2) (aCons (mVar 3) aNil)))))
 (sSeq (sSet 5 (mMeth .Rooms 2 f_Rooms_gap (mFld .rooms (mVar 0)) (aCons (mCB cLen (aCons (mVar 4) aNil)) aNil)))
 (sSeq (sIf (mTest (mOp2 isNotD (mVar 5) (mC .non)))
 (sExpr (mMeth .Rooms 3 f_Rooms_fill_in (mFld .rooms (mVar 0)) (aCons (mVar 5) (aCons (mVar 4) aNil))))
 sNil)
 (sRet (mVar 5)))))
noncomputable def f_Memory_put_in : MFn := fnB 6 b_Memory_put_in
/-- 0 _law_state, 1 _law_thing, 2 _law_shape, 3 _law_slot, 4 _law_marked, 5 _law_place -/
noncomputable def b_law_made : MSt :=
 (sSeq (sSet 5 (mMeth .Memory 4 f_Memory_put_in (mOp2 getI (mVar 0) (mC (.int 2))) (aCons (mVar 1) (aCons (mOp2 (addD false) (mC (.int 1)) (mCB cLen (aCons (mOp2 getI (mVar 0) (mC (.int 0))) aNil))) (aCons (mVar 4) aNil)))))
 (sIf (mTest (mOp2 isNotD (mVar 5) (mC .non)))
 (sSeq (sDPutM (mOp2 getI (mVar 0) (mC (.int 0))) (mVar 5) (mVar 2))
 (sDPutM (mOp2 getI (mVar 0) (mC (.int 1))) (mVar 3) (mVar 5)))
 sNil))
noncomputable def f_law_made : MFn := fnZ 1 (fnB 6 b_law_made)
/-- 0 self, 1 row -/
noncomputable def b_Thing_init : MSt :=
 (sFldS .row (mVar 0) (mCB (cList false) (aCons (mVar 1) aNil)))
noncomputable def f_Thing_init : MFn := fnB 2 b_Thing_init
/-- 0 key, 1 value -/
noncomputable def b_pair : MSt :=
 (sRet (mEx false (mMake .Pair 2 f_Thing_init (aCons (mLst false (aCons (mVar 0) (aCons (mVar 1) aNil))) aNil))))
noncomputable def f_pair : MFn := fnB 2 b_pair
/-- 0 self, 1 row, 2 last_words -/
noncomputable def b_Plain_init : MSt :=
 (sSeq (sExpr (mCall 2 f_Thing_init (aCons (mVar 0) (aCons (mVar 1) aNil))))
 (sFldS .last_words (mVar 0) (mVar 2)))
noncomputable def f_Plain_init : MFn := fnB 3 b_Plain_init
/-- 0 fields, 1 words -/
noncomputable def b_plain : MSt :=
 (sRet (mEx false (mMake .Plain 3 f_Plain_init (aCons (mVar 0) (aCons (mVar 1) aNil)))))
noncomputable def f_plain : MFn := fnB 2 b_plain
/-- 0 field -/
noncomputable def b_weak : MSt :=
 (sRet (mEx false (mMake .Thing 2 f_Thing_init (aCons (mLst false (aCons (mVar 0) aNil)) aNil))))
noncomputable def f_weak : MFn := fnB 1 b_weak
/-- 0 _law_state, 1 _law_parts, 2 _law_marked, 3 _law_way, 4 _law_one, 5 _law_two, 6 _law_three, 7 _law_at, 8 _law_nothing, 9 _law_key, 10 _law_value -/
noncomputable def b_law_new : MSt :=
 (sSeq (sAsg (.tp [3, 4, 5, 6, 7]) (mVar 1))
 (sSeq (sSet 8 (mTup (aCons (mC (.str "nothing")) aNil)))
 (sClr [9, 10] (sIf (mTest (mOp2 eqR (mVar 3) (mC (.int 0))))
 (sExpr (mCall 5 f_law_made (aCons (mVar 0) (aCons (mCall 2 f_plain (aCons (mRepD false (aCons (mVar 8) aNil) (mVar 7)) (aCons (mC .non) aNil))) (aCons (mTup (aCons (mC (.str "plain")) (aCons (mRepD true (aCons (mVar 8) aNil) (mVar 7)) aNil))) (aCons (mVar 4) (aCons (mVar 2) aNil)))))))
 (sClr [9, 10] (sIf (tAnd' (mTest (mOp2 eqR (mVar 3) (mC (.int 1)))) (mTest (mOp2 (dIn false) (mVar 5) (mOp2 getI (mVar 0) (mC (.int 1))))))
 (sSeq (sSet 9 (mTup (aCons (mC (.str "thing")) (aCons (mOp2 dGet (mOp2 getI (mVar 0) (mC (.int 1))) (mVar 5)) aNil))))
 (sSeq (sSet 10 (mVar 8))
 (sSeq (sIf (mTest (mOp2 (dIn false) (mVar 6) (mOp2 getI (mVar 0) (mC (.int 1)))))
 (sSet 10 (mTup (aCons (mC (.str "thing")) (aCons (mOp2 dGet (mOp2 getI (mVar 0) (mC (.int 1))) (mVar 6)) aNil))))
 sNil)
 (sExpr (mCall 5 f_law_made (aCons (mVar 0) (aCons (mCall 2 f_pair (aCons (mVar 9) (aCons (mVar 10) aNil))) (aCons (mTup (aCons (mC (.str "pair")) (aCons (mLst true (aCons (mVar 9) (aCons (mVar 10) aNil))) aNil))) (aCons (mVar 4) (aCons (mVar 2) aNil))))))))))
 (sClr [10] (sIf (tAnd' (mTest (mOp2 eqR (mVar 3) (mC (.int 2)))) (mTest (mOp2 (dIn false) (mVar 5) (mOp2 getI (mVar 0) (mC (.int 1))))))
 (sSeq (sSet 10 (mTup (aCons (mC (.str "thing")) (aCons (mOp2 dGet (mOp2 getI (mVar 0) (mC (.int 1))) (mVar 5)) aNil))))
 (sExpr (mCall 5 f_law_made (aCons (mVar 0) (aCons (mCall 1 f_weak (aCons (mVar 10) aNil)) (aCons (mTup (aCons (mC (.str "weak")) (aCons (mLst true (aCons (mVar 10) aNil)) aNil))) (aCons (mVar 4) (aCons (mVar 2) aNil))))))))
 sNil))))))))
noncomputable def f_law_new : MFn := fnB 11 b_law_new
/-- 0 number -/
noncomputable def b_is_marked : MSt :=
 (sRet (mOp2 eqR (mOp2 (intOp andI) (mOp2 (intOp shrI) (mVar 0) (mC (.int 2))) (mC (.int 1))) (mC (.int 1))))
noncomputable def f_is_marked : MFn := fnB 1 b_is_marked
/-- 0 self, 1 place -/
noncomputable def b_Rooms_read : MSt :=
 (sRet (mOp2 getI (mFld .inside (mVar 0)) (mVar 1)))
noncomputable def f_Rooms_read : MFn := fnB 2 b_Rooms_read
/-- 0 self, 1 place -/
noncomputable def b_Memory_marked_at : MSt :=
 (sRet (mCall 1 f_is_marked (aCons (mMeth .Rooms 2 f_Rooms_read (mFld .rooms (mVar 0)) (aCons (mVar 1) aNil)) aNil)))
noncomputable def f_Memory_marked_at : MFn := fnB 2 b_Memory_marked_at
/-- 0 number -/
noncomputable def b_has_words : MSt :=
 (sRet (mOp2 eqR (mOp2 (intOp andI) (mOp2 (intOp shrI) (mVar 0) (mC (.int 3))) (mC (.int 1))) (mC (.int 1))))
noncomputable def f_has_words : MFn := fnB 1 b_has_words
/-- 0 number -/
noncomputable def b_kind_in : MSt :=
 (sRet (mOp2 (intOp andI) (mVar 0) (mC (.int 3))))
noncomputable def f_kind_in : MFn := fnB 1 b_kind_in
/-- 0 number -/
noncomputable def b_size_in : MSt :=
 (sRet (mOp2 (intOp shrI) (mVar 0) (mC (.int 4))))
noncomputable def f_size_in : MFn := fnB 1 b_size_in
/-- 0 number, 1 marked -/
noncomputable def b_with_mark : MSt :=
 (sRet (mCall 4 f_header (aCons (mCall 1 f_kind_in (aCons (mVar 0) aNil)) (aCons (mVar 1) (aCons (mCall 1 f_has_words (aCons (mVar 0) aNil)) (aCons (mCall 1 f_size_in (aCons (mVar 0) aNil)) aNil))))))
noncomputable def f_with_mark : MFn := fnB 2 b_with_mark
/-- 0 self, 1 place, 2 value -/
noncomputable def b_Rooms_write : MSt :=
 (sSetL (mFld .inside (mVar 0)) (mVar 1) (mVar 2))
noncomputable def f_Rooms_write : MFn := fnB 3 b_Rooms_write
/-- 0 self, 1 place, 2 marked -/
noncomputable def b_Memory_set_mark : MSt :=
 (sExpr (mMeth .Rooms 3 f_Rooms_write (mFld .rooms (mVar 0)) (aCons (mVar 1) (aCons (mCall 2 f_with_mark (aCons (mMeth .Rooms 2 f_Rooms_read (mFld .rooms (mVar 0)) (aCons (mVar 1) aNil)) (aCons (mVar 2) aNil))) aNil))))
noncomputable def f_Memory_set_mark : MFn := fnB 3 b_Memory_set_mark
/-- 0 self, 1 place -/
noncomputable def b_Marking_shade : MSt :=
 (sIf (tNot' (mTest (mMeth .Memory 2 f_Memory_marked_at (mFld .memory (mVar 0)) (aCons (mVar 1) aNil))))
 (sSeq (sExpr (mMeth .Memory 3 f_Memory_set_mark (mFld .memory (mVar 0)) (aCons (mVar 1) (aCons (mC (.bl true)) aNil))))
 (sExpr (mBM isL lAppend (mFld .line (mVar 0)) (aCons (mVar 1) aNil))))
 sNil)
noncomputable def f_Marking_shade : MFn := fnB 2 b_Marking_shade
/-- 0 self, 1 place -/
noncomputable def b_Memory_sort_at : MSt :=
 (sRet (mOp2 getI (mC (.tup (c_SORTS.map .str))) (mCall 1 f_kind_in (aCons (mMeth .Rooms 2 f_Rooms_read (mFld .rooms (mVar 0)) (aCons (mVar 1) aNil)) aNil))))
noncomputable def f_Memory_sort_at : MFn := fnB 2 b_Memory_sort_at
/-- 0 self, 1 place -/
noncomputable def b_Memory_first_field : MSt :=
 (sSeq (sIf (mTest (mOp2 eqR (mMeth .Memory 2 f_Memory_sort_at (mVar 0) (aCons (mVar 1) aNil)) (mC (.str "plain"))))
 (sRet (mOp2 (addD false) (mVar 1) (mC (.int 3))))
 sNil)
 (sRet (mOp2 (addD false) (mVar 1) (mC (.int 2)))))
noncomputable def f_Memory_first_field : MFn := fnB 2 b_Memory_first_field
/-- 0 self, 1 place, 2 at, 3 value -/
noncomputable def b_Memory_set_field : MSt :=
 (sExpr (mMeth .Rooms 3 f_Rooms_write (mFld .rooms (mVar 0)) (aCons (mOp2 (addD false) (mMeth .Memory 2 f_Memory_first_field (mVar 0) (aCons (mVar 1) aNil)) (mVar 2)) (aCons (mVar 3) aNil))))
noncomputable def f_Memory_set_field : MFn := fnB 4 b_Memory_set_field
/-- 0 value -/
noncomputable def b_is_thing : MSt :=
 (sRet (mOp2 eqR (mOp2 getI (mVar 0) (mC (.int 0))) (mC (.str "thing"))))
noncomputable def f_is_thing : MFn := fnB 1 b_is_thing
/-- 0 value -/
noncomputable def b_named_by : MSt :=
 (sSeq (sIf (mTest (mCall 1 f_is_thing (aCons (mVar 0) aNil)))
 (sRet (mLst false (aCons (mOp2 getI (mVar 0) (mC (.int 1))) aNil)))
 sNil)
 (sRet (mLst false aNil)))
noncomputable def f_named_by : MFn := fnB 1 b_named_by
/-- 0 self, 1 was, 2 becomes -/
noncomputable def b_New_put_shades : MSt :=
 (sRet (mCall 1 f_named_by (aCons (mVar 2) aNil)))
noncomputable def f_New_put_shades : MFn := fnB 3 b_New_put_shades
/-- 0 self, 1 was, 2 becomes -/
noncomputable def b_Old_put_shades : MSt :=
 (sRet (mCall 1 f_named_by (aCons (mVar 1) aNil)))
noncomputable def f_Old_put_shades : MFn := fnB 3 b_Old_put_shades
/-- 0 _law_state, 1 _law_parts, 2 _law_fence, 3 _law_marking, 4 _law_way, 5 _law_one, 6 _law_two, 7 _law_three, 8 _law_at, 9 _law_place, 10 _law_value, 11 _law_other -/
noncomputable def b_law_put : MSt :=
 (sSeq (sAsg (.tp [4, 5, 6, 7, 8]) (mVar 1))
 (sSeq (sSet 9 (mDGet1 (mOp2 getI (mVar 0) (mC (.int 1))) (mVar 5)))
 (sSeq (sIf (tOr' (mTest (mOp2 isD (mVar 9) (mC .non))) (tOr' (mTest (mOp2 neR (mOp2 getI (mOp2 dGet (mOp2 getI (mVar 0) (mC (.int 0))) (mVar 9)) (mC (.int 0))) (mC (.str "plain")))) (mTest (mOp2 (cmpI geI) (mVar 8) (mCB cLen (aCons (mOp2 getI (mOp2 dGet (mOp2 getI (mVar 0) (mC (.int 0))) (mVar 9)) (mC (.int 1))) aNil))))))
 sRetN
 sNil)
 (sSeq (sSet 10 (mTup (aCons (mC (.str "nothing")) aNil)))
 (sSeq (sIf (mTest (mOp2 (dIn false) (mVar 6) (mOp2 getI (mVar 0) (mC (.int 1)))))
 (sSet 10 (mTup (aCons (mC (.str "thing")) (aCons (mOp2 dGet (mOp2 getI (mVar 0) (mC (.int 1))) (mVar 6)) aNil))))
 sNil)
 (sSeq (sClr [11] (sIf (mTest (mOp2 isNotD (mVar 3) (mC .non)))
 (sClr [11] (sFor (miL (mAlt (mMeth .New 3 f_New_put_shades (mVar 2) (aCons (mAlt (mOp2 getI (mOp2 getI (mOp2 dGet (mOp2 getI (mVar 0) (mC (.int 0))) (mVar 9)) (mC (.int 1))) (mVar 8)) (mOp2 dGet (mOp2 getI (mOp2 dGet (mOp2 getI (mVar 0) (mC (.int 0))) (mVar 9)) (mC (.int 1))) (mVar 8))) (aCons (mVar 10) aNil))) (mMeth .Old 3 f_Old_put_shades (mVar 2) (aCons (mAlt (mOp2 getI (mOp2 getI (mOp2 dGet (mOp2 getI (mVar 0) (mC (.int 0))) (mVar 9)) (mC (.int 1))) (mVar 8)) (mOp2 dGet (mOp2 getI (mOp2 dGet (mOp2 getI (mVar 0) (mC (.int 0))) (mVar 9)) (mC (.int 1))) (mVar 8))) (aCons (mVar 10) aNil))))) (.nm 11)
 (sClr [11] (sExpr (mMeth .Marking 2 f_Marking_shade (mVar 3) (aCons (mVar 11) aNil))))))
 sNil))
 (sSeq (sExpr (mMeth .Memory 4 f_Memory_set_field (mOp2 getI (mVar 0) (mC (.int 2))) (aCons (mVar 9) (aCons (mVar 8) (aCons (mVar 10) aNil)))))
 (sAlt (sSetL (mOp2 getI (mOp2 dGet (mOp2 getI (mVar 0) (mC (.int 0))) (mVar 9)) (mC (.int 1))) (mVar 8) (mVar 10)) (sDPutM (mOp2 getI (mOp2 dGet (mOp2 getI (mVar 0) (mC (.int 0))) (mVar 9)) (mC (.int 1))) (mVar 8) (mVar 10))))))))))
noncomputable def f_law_put : MFn := fnB 12 b_law_put
/-- 0 self -/
noncomputable def b_Fence_marks_new : MSt :=
 (sRet (mC (.bl false)))
noncomputable def f_Fence_marks_new : MFn := fnB 1 b_Fence_marks_new
/-- 0 self -/
noncomputable def b_Fence_shades_look : MSt :=
 (sRet (mC (.bl false)))
noncomputable def f_Fence_shades_look : MFn := fnB 1 b_Fence_shades_look
/-- 0 self -/
noncomputable def b_Marking_grey : MSt :=
 (sRet (mCB (cList false) (aCons (mFld .line (mVar 0)) aNil)))
noncomputable def f_Marking_grey : MFn := fnB 1 b_Marking_grey
/-- 0 sort, 1 fields, 2 words -/
noncomputable def b_made_of : MSt :=
 (sSeq (sIf (mTest (mOp2 eqR (mVar 0) (mC (.str "plain"))))
 (sRet (mEx false (mMake .Plain 3 f_Plain_init (aCons (mVar 1) (aCons (mVar 2) aNil)))))
 sNil)
 (sSeq (sIf (mTest (mOp2 eqR (mVar 0) (mC (.str "weak"))))
 (sRet (mEx false (mMake .Thing 2 f_Thing_init (aCons (mVar 1) aNil))))
 sNil)
 (sRet (mEx false (mMake .Pair 2 f_Thing_init (aCons (mVar 1) aNil))))))
noncomputable def f_made_of : MFn := fnB 3 b_made_of
/-- 0 self, 1 place -/
noncomputable def b_Memory_size_at : MSt :=
 (sRet (mCall 1 f_size_in (aCons (mMeth .Rooms 2 f_Rooms_read (mFld .rooms (mVar 0)) (aCons (mVar 1) aNil)) aNil)))
noncomputable def f_Memory_size_at : MFn := fnB 2 b_Memory_size_at
/-- 0 self, 1 place, 2 fields, 3 words, 4 at -/
noncomputable def b_Memory_thing_at : MSt :=
 (sSeq (sSet 2 (mLcV (miR2 (aCons (mMeth .Memory 2 f_Memory_first_field (mVar 0) (aCons (mVar 1) aNil)) (aCons (mOp2 (addD false) (mVar 1) (mMeth .Memory 2 f_Memory_size_at (mVar 0) (aCons (mVar 1) aNil))) aNil))) (.nm 4) tYesM (mMeth .Rooms 2 f_Rooms_read (mFld .rooms (mVar 0)) (aCons (mVar 4) aNil)) [4]))
 (sSeq (sSet 3 (mC .non))
 (sSeq (sIf (mTest (mCall 1 f_has_words (aCons (mMeth .Rooms 2 f_Rooms_read (mFld .rooms (mVar 0)) (aCons (mVar 1) aNil)) aNil)))
 (sSet 3 (mOp2 getI (mMeth .Rooms 2 f_Rooms_read (mFld .rooms (mVar 0)) (aCons (mOp2 (addD false) (mVar 1) (mC (.int 2))) aNil)) (mC (.int 1))))
 sNil)
 (sRet (mCall 3 f_made_of (aCons (mMeth .Memory 2 f_Memory_sort_at (mVar 0) (aCons (mVar 1) aNil)) (aCons (mVar 2) (aCons (mVar 3) aNil))))))))
noncomputable def f_Memory_thing_at : MFn := fnB 5 b_Memory_thing_at
/-- 0 self, 1 value -/
noncomputable def b_Plain_holds : MSt :=
 (sRet (mLcV (miL (mFld .row (mVar 0))) (.nm 1) (mTest (mCall 1 f_is_thing (aCons (mVar 1) aNil))) (mOp2 getI (mVar 1) (mC (.int 1))) [1]))
noncomputable def f_Plain_holds : MFn := fnB 2 b_Plain_holds
/-- 0 self -/
noncomputable def b_Thing_holds : MSt :=
 (sRet (mLst false aNil))
noncomputable def f_Thing_holds : MFn := fnB 1 b_Thing_holds
/-- 0 self, 1 place, 2 other -/
noncomputable def b_Marking_step : MSt :=
 (sSeq (sSet 1 (mBM isL lPopAt (mFld .line (mVar 0)) (aCons (mC (.int 0)) aNil)))
 (sSeq (sClr [2] (sFor (miL (mAlt (mMeth0 .Thing f_Thing_holds (mMeth .Memory 2 f_Memory_thing_at (mFld .memory (mVar 0)) (aCons (mVar 1) aNil))) (mAlt (mMeth0 .Plain f_Plain_holds (mMeth .Memory 2 f_Memory_thing_at (mFld .memory (mVar 0)) (aCons (mVar 1) aNil))) (mMeth0 .Pair f_Thing_holds (mMeth .Memory 2 f_Memory_thing_at (mFld .memory (mVar 0)) (aCons (mVar 1) aNil)))))) (.nm 2)
 (sClr [2] (sExpr (mMeth .Marking 2 f_Marking_shade (mVar 0) (aCons (mVar 2) aNil))))))
 (sRet (mVar 1))))
noncomputable def f_Marking_step : MFn := fnB 3 b_Marking_step
/-- 0 self -/
noncomputable def b_Old_marks_new : MSt :=
 (sRet (mC (.bl true)))
noncomputable def f_Old_marks_new : MFn := fnB 1 b_Old_marks_new
/-- 0 self -/
noncomputable def b_Old_shades_look : MSt :=
 (sRet (mC (.bl true)))
noncomputable def f_Old_shades_look : MFn := fnB 1 b_Old_shades_look
/-- 0 _law_state, 1 _law_parts, 2 _law_fence, 3 _law_marking, 4 _law_way, 5 _law_one, 6 _law_two, 7 _law_three, 8 _law_at, 9 _law_value -/
noncomputable def b_law_deed : MSt :=
 (sSeq (sAsg (.tp [4, 5, 6, 7, 8]) (mVar 1))
 (sClr [9] (sIf (mTest (mOp2 (cmpI ltI) (mVar 4) (mC (.int 3))))
 (sExpr (mCall 3 f_law_new (aCons (mVar 0) (aCons (mVar 1) (aCons (mAnd (mOp2 isNotD (mVar 3) (mC .non)) (mAlt (mMeth0 .New f_Fence_marks_new (mVar 2)) (mMeth0 .Old f_Old_marks_new (mVar 2)))) aNil)))))
 (sClr [9] (sIf (mTest (mOp2 (cmpI ltI) (mVar 4) (mC (.int 5))))
 (sExpr (mCall 4 f_law_put (aCons (mVar 0) (aCons (mVar 1) (aCons (mVar 2) (aCons (mVar 3) aNil))))))
 (sClr [9] (sIf (tAnd' (mTest (mOp2 (cmpI ltI) (mVar 4) (mC (.int 9)))) (mTest (mOp2 (dIn false) (mVar 6) (mOp2 getI (mVar 0) (mC (.int 1))))))
 (sScp (sSeq (sSet 9 (mCall 2 f_law_brought (aCons (mVar 0) (aCons (mVar 1) aNil))))
 (sSeq (sIf (tAnd' (mTest (mOp2 eqR (mVar 4) (mC (.int 6)))) (tAnd' (mTest (mOp2 isNotD (mVar 3) (mC .non))) (tAnd' (mTest (mOp2 eqR (mOp2 getI (mVar 9) (mC (.int 0))) (mC (.str "thing")))) (mTest (mAlt (mMeth0 .New f_Fence_shades_look (mVar 2)) (mMeth0 .Old f_Old_shades_look (mVar 2)))))))
 (sExpr (mMeth .Marking 2 f_Marking_shade (mVar 3) (aCons (mOp2 getI (mVar 9) (mC (.int 1))) aNil)))
 sNil)
 (sExpr (mCall 3 f_law_give (aCons (mVar 0) (aCons (mVar 5) (aCons (mVar 9) aNil))))))))
 (sIf (mTest (mOp2 eqR (mVar 4) (mC (.int 9))))
 (sExpr (mDPop2 (mOp2 getI (mVar 0) (mC (.int 1))) (mVar 5) (mC .non)))
 (sIf (tAnd' (mTest (mOp2 (cmpI gtI) (mVar 4) (mC (.int 9)))) (tAnd' (mTest (mOp2 isNotD (mVar 3) (mC .non))) (mTest (mOp2 neR (mMeth0 .Marking f_Marking_grey (mVar 3)) (mLst false aNil)))))
 (sExpr (mMeth0 .Marking f_Marking_step (mVar 3)))
 sNil)))))))))
noncomputable def f_law_deed : MFn := fnB 10 b_law_deed
/-- 0 _law_things, 1 _law_some, 2 _law_there, 3 _law_place, 4 _law_many, 5 _law_sort, 6 _law_fields, 7 _law_wanted, 8 _law_value -/
noncomputable def b_law_closing : MSt :=
 (sSeq (sScp (sSeq (sSet 2 mDct)
 (sSeq (sClr [3] (sFor (miL (mVar 1)) (.nm 3)
 (sClr [3] (sDPutM (mVar 2) (mVar 3) (mC (.bl true))))))
 (sSeq (sSet 4 (mOp1 negD (mC (.int 1))))
 (sClr [4, 3, 5, 6, 7, 8] (sWhile (mTest (mOp2 neR (mVar 4) (mCB cLen (aCons (mVar 2) aNil))))
 (sSeq (sSet 4 (mCB cLen (aCons (mVar 2) aNil)))
 (sClr [3, 5, 6, 7, 8] (sClr [3, 5, 6, 7, 8] (sFor (miL (mCB (cListU false) (aCons (mVar 2) aNil))) (.nm 3)
 (sSeq (sAsg (.tp [5, 6]) (mOp2 dGet (mVar 0) (mVar 3)))
 (sSeq (sSet 7 (mVar 6))
 (sSeq (sIf (mTest (mOp2 neR (mVar 5) (mC (.str "plain"))))
 (sSet 7 (mOp2 (mulD false) (mSl' false (mVar 6) (ptSome (mC (.int 1))) ptNone) (mCB cInt (aCons (mAnd (mOp2 eqR (mVar 5) (mC (.str "pair"))) (mAnd (mOp2 eqR (mOp2 getI (mOp2 getI (mVar 6) (mC (.int 0))) (mC (.int 0))) (mC (.str "thing"))) (mOp2 (dIn false) (mOp2 getI (mOp2 getI (mVar 6) (mC (.int 0))) (mC (.int 1))) (mVar 2)))) aNil))))
 sNil)
 (sClr [3, 5, 6, 7, 8] (sClr [8] (sFor (miL (mVar 7)) (.nm 8)
 (sClr [8] (sIf (mTest (mOp2 eqR (mOp2 getI (mVar 8) (mC (.int 0))) (mC (.str "thing"))))
 (sDPutM (mVar 2) (mOp2 getI (mVar 8) (mC (.int 1))) (mC (.bl true)))
 sNil))))))))))))))))))
 (sRet (mVar 2)))
noncomputable def f_law_closing : MFn := fnB 9 b_law_closing
/-- 0 _law_state, 1 _law_marking, 2 _law_there, 3 _law_slot, 4 _law_place -/
noncomputable def b_law_held : MSt :=
 (sSeq (sSet 2 (mCall 2 f_law_closing (aCons (mOp2 getI (mVar 0) (mC (.int 0))) (aCons (mLk (mOp2 getI (mVar 0) (mC (.int 0))) (mLcV (miK (mOp2 getI (mVar 0) (mC (.int 0)))) (.nm 4) (mTest (mMeth .Memory 2 f_Memory_marked_at (mOp2 getI (mVar 0) (mC (.int 2))) (aCons (mVar 4) aNil))) (mVar 4) [4])) aNil))))
 (sSeq (sClr [3] (sLk (mOp2 getI (mVar 0) (mC (.int 1))) (sFor (miK (mOp2 getI (mVar 0) (mC (.int 1)))) (.nm 3)
 (sClr [3] (sIf (mTest (mOp2 (dIn true) (mOp2 dGet (mOp2 getI (mVar 0) (mC (.int 1))) (mVar 3)) (mVar 2)))
 (sRet (mC (.bl false)))
 sNil)))))
 (sRet (mC (.bl true)))))
noncomputable def f_law_held : MFn := fnB 5 b_law_held
/-- 0 word -/
noncomputable def b_fence_of : MSt :=
 (sSeq (sIf (mTest (mOp2 eqR (mVar 0) (mC (.str "old"))))
 (sRet (mMakeN .Old))
 sNil)
 (sRet (mMakeN .New)))
noncomputable def f_fence_of : MFn := fnB 1 b_fence_of
/-- 0 self, 1 place -/
noncomputable def b_Marking_colour_of : MSt :=
 (sSeq (sIf (tNot' (mTest (mMeth .Memory 2 f_Memory_marked_at (mFld .memory (mVar 0)) (aCons (mVar 1) aNil))))
 (sRet (mC (.str "white")))
 sNil)
 (sSeq (sIf (mTest (mOp2 (inQ false) (mVar 1) (mFld .line (mVar 0))))
 (sRet (mC (.str "grey")))
 sNil)
 (sRet (mC (.str "black")))))
noncomputable def f_Marking_colour_of : MFn := fnB 2 b_Marking_colour_of
/-- 0 self, 1 memory -/
noncomputable def b_Marking_init : MSt :=
 (sSeq (sFldS .memory (mVar 0) (mVar 1))
 (sFldS .line (mVar 0) (mLst true aNil)))
noncomputable def f_Marking_init : MFn := fnB 2 b_Marking_init
/-- 0 self, 1 many, 2 cells -/
noncomputable def b_Rooms_init : MSt :=
 (sSeq (sFldS .many (mVar 0) (mVar 1))
 (sSeq (sFldS .cells (mVar 0) (mVar 2))
 (sFldS .inside (mVar 0) (mRepD true (aCons (mC .non) aNil) (mOp2 (mulD false) (mVar 1) (mVar 2))))))
noncomputable def f_Rooms_init : MFn := fnB 3 b_Rooms_init
/-- 0 self, 1 many, 2 cells -/
noncomputable def b_Memory_init : MSt :=
 (sFldS .rooms (mVar 0) (mMake .Rooms 3 f_Rooms_init (aCons (mVar 1) (aCons (mVar 2) aNil))))
noncomputable def f_Memory_init : MFn := fnB 3 b_Memory_init
/-- 0 _law_script, 1 _law_first, 2 _law_state, 3 _law_fence, 4 _law_marking, 5 _law_cells, 6 _law_k, 7 _law_before, 8 _law_slot, 9 _law_place -/
noncomputable def b_law : MSt :=
 (sSeq (sSet 1 (mCB cAbs (aCons (mCall 2 f_law_cell_at (aCons (mVar 0) (aCons (mC (.int 0)) aNil))) aNil)))
 (sSeq (sSet 2 (mTup (aCons mDct (aCons mDct (aCons (mMake .Memory 3 f_Memory_init (aCons (mC (.int 6)) (aCons (mC (.int 16)) aNil))) aNil)))))
 (sSeq (sSet 3 (mCall 1 f_fence_of (aCons (mC (.str "old")) aNil)))
 (sSeq (sSet 4 (mC .non))
 (sSeq (sSet 5 (mSl' false (mVar 0) (ptSome (mC (.int 1))) (ptSome (mC (.int 63)))))
 (sSeq (sClr [6, 4, 8, 7, 9] (sFor (miR1 (aCons (mCB cLen (aCons (mVar 5) aNil)) aNil)) (.nm 6)
 (sSeq (sClr [8] (sIf (mTest (mOp2 eqR (mVar 6) (mOp2 (intOp modI) (mOp2 (intOp fdivI) (mVar 1) (mC (.int 2))) (mC (.int 24)))))
 (sSeq (sSet 4 (mMake .Marking 2 f_Marking_init (aCons (mOp2 getI (mVar 2) (mC (.int 2))) aNil)))
 (sClr [8] (sFor (miL (mCB (cSort false) (aCons (mOp2 getI (mVar 2) (mC (.int 1))) aNil))) (.nm 8)
 (sClr [8] (sExpr (mMeth .Marking 2 f_Marking_shade (mVar 4) (aCons (mOp2 dGet (mOp2 getI (mVar 2) (mC (.int 1))) (mVar 8)) aNil)))))))
 sNil))
 (sSeq (sSet 7 (mCB (cDict true) (aCons (mOp2 getI (mVar 2) (mC (.int 0))) aNil)))
 (sSeq (sExpr (mCall 4 f_law_deed (aCons (mVar 2) (aCons (mCall 2 f_law_cut (aCons (mCall 2 f_law_cell_by (aCons (mOp2 getI (mVar 5) (mVar 6)) (aCons (mOp2 eqR (mOp2 (intOp modI) (mVar 1) (mC (.int 2))) (mC (.int 0))) aNil))) (aCons (mLst false (aCons (mC (.int 12)) (aCons (mC (.int 5)) (aCons (mC (.int 5)) (aCons (mC (.int 5)) (aCons (mC (.int 4)) aNil)))))) aNil))) (aCons (mVar 3) (aCons (mVar 4) aNil))))))
 (sClr [6, 8, 7, 9] (sClr [9] (sIf (mTest (mOp2 isNotD (mVar 4) (mC .non)))
 (sSeq (sClr [9] (sLk (mOp2 getI (mVar 2) (mC (.int 0))) (sFor (miK (mOp2 getI (mVar 2) (mC (.int 0)))) (.nm 9)
 (sClr [9] (sIf (tAnd' (mTest (mOp2 (dIn true) (mVar 9) (mVar 7))) (mTest (mOp2 neR (mMeth .Marking 2 f_Marking_colour_of (mVar 4) (aCons (mVar 9) aNil)) (mC (.str "black")))))
 (sRet (mC (.bl false)))
 sNil)))))
 (sIf (tNot' (mTest (mCall 2 f_law_held (aCons (mVar 2) (aCons (mVar 4) aNil)))))
 (sRet (mC (.bl false)))
 sNil))
 sNil))))))))
 (sRet (mC (.bl true)))))))))
noncomputable def f_law : MFn := fnB 10 b_law

end MP

set_option Elab.async false
set_option linter.all false
set_option maxRecDepth 100000
set_option maxHeartbeats 4000000
namespace MP
open PySem L2
/-! ### the built-in names that the text leaves alone -/
structure Blt (mg : Str → Option Value) : Prop where
  abs : mg "abs" = none
  dict : mg "dict" = none
  enumerate : mg "enumerate" = none
  int : mg "int" = none
  len : mg "len" = none
  list : mg "list" = none
  range : mg "range" = none
  sorted : mg "sorted" = none
section
variable {P : Program} {w : World} {K : PySem.W.Frag} {mg : Str → Option Value} {base : Heap} {G : Ga}
theorem sc_law_cell_at : FnScope ["_law_script", "_law_k"] ["_law_script", "_law_k"] (defScope st_law_cell_at) := ⟨rfl, rfl, rfl, by decide +kernel, rfl, by decide +kernel, by decide +kernel⟩
theorem ok_law_cell_at {f : Addr} {fd : FuncData} (F : Fun K "_law_cell_at" "_law_cell_at" st_law_cell_at f fd) (g : Gok K G) (B : Blt mg)  : FnOk P w K mg base (L2.CX P w) 1 f fd ["_law_script", "_law_k"] (SpM K G f_law_cell_at 2) :=
  mk_fn F sc_law_cell_at fun cdv A outer s H E d =>
 (ss_cons (s_if (t_cmp op_lt (s_cmpI (p := ltI)) (d_var 1) (d_callB cr_lenU s_len B.len (a_cons (d_var 0) a_nil)) (nomark _))
 (ss_one (s_ret (d_ix (d_var 0) (d_var 1))))
 ss_nil)
 (ss_one (s_ret d_int)))
theorem sc_law_cell_by : FnScope ["_law_cell", "_law_free", "_law_number"] ["_law_cell", "_law_free"] (defScope st_law_cell_by) := ⟨rfl, rfl, rfl, by decide +kernel, rfl, by decide +kernel, by decide +kernel⟩
theorem ok_law_cell_by {f : Addr} {fd : FuncData} (F : Fun K "_law_cell_by" "_law_cell_by" st_law_cell_by f fd) (g : Gok K G) (B : Blt mg)  : FnOk P w K mg base (L2.CX P w) 1 f fd ["_law_cell", "_law_free"] (SpM K G f_law_cell_by 2) :=
  mk_fn F sc_law_cell_by fun cdv A outer s H E d =>
 (ss_cons (s_if (t_val (d_var 1))
 (ss_one (s_ret (d_var 0)))
 ss_nil)
 (ss_cons (s_set d (d_bin op_mod s_mod (d_bin op_addU s_add (d_bin op_mulU s_mul (d_var 0) d_int) d_int) d_int))
 (ss_one (s_ret (d_bin op_fdivW s_fdiv (d_bin op_mod s_mod (d_bin op_mulU s_mul (d_var 2) d_int) d_int) d_int)))))
theorem sc_law_cut : FnScope ["_law_cell", "_law_sizes", "_law_found", "_law_number", "_law_size"] ["_law_cell", "_law_sizes"] (defScope st_law_cut) := ⟨rfl, rfl, rfl, by decide +kernel, rfl, by decide +kernel, by decide +kernel⟩
theorem ok_law_cut {f : Addr} {fd : FuncData} (F : Fun K "_law_cut" "_law_cut" st_law_cut f fd) (g : Gok K G) (B : Blt mg)  : FnOk P w K mg base (L2.CX P w) 1 f fd ["_law_cell", "_law_sizes"] (SpM K G f_law_cut 2) :=
  mk_fn F sc_law_cut fun cdv A outer s H E d =>
 (ss_blk 3 (bb_scp (bb_cons (s_set d (d_lst a_nil))
 (bb_cons (s_set d (d_callB call_abs s_abs B.abs (a_cons (d_var 0) a_nil)))
 (bb_one (s_clr [4, 3] (s_for d (i_list (d_var 1)) (g_nm d)
 (ss_cons (s_expr (d_bm PySem.F.plainAttrs_list PySem.F.slot_list_append PySem.F.type_list_append mt_append s_append (fun _ _ _ _ _ em r h => tyL em r h) (d_var 2) (a_cons (d_bin op_mod s_mod (d_var 3) (d_var 4)) a_nil)))
 (ss_one (s_clr [4] (s_set d (d_bin op_fdivW s_fdiv (d_var 3) (d_var 4))))))))))))
 (ss_one (s_ret (d_var 2))))
theorem sc_law_brought : FnScope ["_law_state", "_law_parts", "_law_way", "_law_one", "_law_two", "_law_three", "_law_at", "_law_shape"] ["_law_state", "_law_parts"] (defScope st_law_brought) := ⟨rfl, rfl, rfl, by decide +kernel, rfl, by decide +kernel, by decide +kernel⟩
theorem ok_law_brought {f : Addr} {fd : FuncData} (F : Fun K "_law_brought" "_law_brought" st_law_brought f fd) (g : Gok K G) (B : Blt mg)  : FnOk P w K mg base (L2.CX P w) 1 f fd ["_law_state", "_law_parts"] (SpM K G f_law_brought 2) :=
  mk_fn F sc_law_brought fun cdv A outer s H E d =>
 (ss_cons (s_asg (d_var 1) (g_tp d (gs_cons d (gs_cons d (gs_cons d (gs_cons d (gs_cons d gs_nil)))))))
 (ss_cons (s_set d (d_dget d (d_ix (d_var 0) d_int) (d_dget d (d_ix (d_var 0) d_int) (d_var 4))))
 (ss_cons (s_if (PW.pt (t_and (t_cmp (op_eqU d) s_eq (d_var 2) d_int (nomark _)) (t_and (t_cmp (op_eqU d) s_eq (d_ix (d_var 7) d_int) d_str (nomark _)) (t_and1 (t_cmp op_lt (s_cmpI (p := ltI)) (d_var 6) (d_callB cr_lenU s_len B.len (a_cons (d_ix (d_var 7) d_int) a_nil)) (nomark _))))))
 (ss_one (s_ret (d_alt (d_ix (d_ix (d_var 7) d_int) (d_var 6)) (d_dget d (d_ix (d_var 7) d_int) (d_var 6)))))
 ss_nil)
 (ss_cons (s_if (PW.pt (t_and (t_cmp (op_eqU d) s_eq (d_var 2) d_int (nomark _)) (t_and1 (t_cmp (op_eqU d) s_eq (d_ix (d_var 7) d_int) d_str (nomark _)))))
 (ss_one (s_ret (d_ix (d_ix (d_var 7) d_int) d_int)))
 ss_nil)
 (ss_cons (s_if (PW.pt (t_and (t_cmp (op_eqU d) s_eq (d_var 2) d_int (nomark _)) (t_and (t_cmp (op_eqU d) s_eq (d_ix (d_var 7) d_int) d_str (nomark _)) (t_and1 (t_cmp (op_eqU d) s_eq (d_ix (d_ix (d_var 7) d_int) d_int) (d_tup (a_cons d_str (a_cons (d_dget2 d (d_ix (d_var 0) d_int) (d_var 5) (d_neg d_int)) a_nil))) (nomark _))))))
 (ss_one (s_ret (d_ix (d_ix (d_var 7) d_int) d_int)))
 ss_nil)
 (ss_cons (s_if (t_cmp (op_eqU d) s_eq (d_var 2) d_int (nomark _))
 (ss_one (s_ret (d_tup (a_cons d_str (a_cons (d_dget d (d_ix (d_var 0) d_int) (d_var 4)) a_nil)))))
 ss_nil)
 (ss_one (s_ret (d_tup (a_cons d_str a_nil))))))))))
theorem sc_law_give : FnScope ["_law_state", "_law_slot", "_law_value"] ["_law_state", "_law_slot", "_law_value"] (defScope st_law_give) := ⟨rfl, rfl, rfl, by decide +kernel, rfl, by decide +kernel, by decide +kernel⟩
theorem ok_law_give {f : Addr} {fd : FuncData} (F : Fun K "_law_give" "_law_give" st_law_give f fd) (g : Gok K G) (B : Blt mg)  : FnOk P w K mg base (L2.CX P w) 1 f fd ["_law_state", "_law_slot", "_law_value"] (SpM K G f_law_give 3) :=
  mk_fn F sc_law_give fun cdv A outer s H E d =>
 (ss_cons (s_expr (d_dpop2 (d_ix (d_var 0) d_int) (d_var 1) d_non))
 (ss_one (s_if (t_cmp (op_eqU d) s_eq (d_ix (d_var 2) d_int) d_str (nomark _))
 (ss_one (s_dput d (d_ix (d_var 0) d_int) (d_var 1) (d_ix (d_var 2) d_int)))
 ss_nil)))
theorem sc_header : FnScope ["kind", "marked", "words", "size"] ["kind", "marked", "words", "size"] (defScope st_header) := ⟨rfl, rfl, rfl, by decide +kernel, rfl, by decide +kernel, by decide +kernel⟩
theorem ok_header {f : Addr} {fd : FuncData} (F : Fun K "header" "header" st_header f fd) (g : Gok K G) (B : Blt mg)  : FnOk P w K mg base (L2.CX P w) 1 f fd ["kind", "marked", "words", "size"] (SpM K G f_header 4) :=
  mk_fn F sc_header fun cdv A outer s H E d =>
 (ss_one (s_ret (d_bin op_or s_bor (d_bin op_or s_bor (d_bin op_or s_bor (d_var 0) (d_bin op_shlW s_shl (d_callT call_int1 s_intc B.int (a_cons (d_var 1) a_nil)) d_int)) (d_bin op_shlW s_shl (d_callT call_int1 s_intc B.int (a_cons (d_var 2) a_nil)) d_int)) (d_bin op_shlW s_shl (d_var 3) d_int))))
theorem sc_words_cell : FnScope ["words"] ["words"] (defScope st_words_cell) := ⟨rfl, rfl, rfl, by decide +kernel, rfl, by decide +kernel, by decide +kernel⟩
theorem ok_words_cell {f : Addr} {fd : FuncData} (F : Fun K "words_cell" "words_cell" st_words_cell f fd) (g : Gok K G) (B : Blt mg) (T_NOTHING : GlT K mg "NOTHING" c_NOTHING) : FnOk P w K mg base (L2.CX P w) 1 f fd ["words"] (SpM K G f_words_cell 1) :=
  mk_fn F sc_words_cell fun cdv A outer s H E d =>
 (ss_cons (s_if (t_cmp op_isN s_is (d_var 0) d_non (nomark _))
 (ss_one (s_ret (d_glob T_NOTHING.c)))
 ss_nil)
 (ss_one (s_ret (d_tup (a_cons d_str (a_cons (d_var 0) a_nil))))))
theorem sc_Pair_sort_of : FnScope ["self"] ["self"] (defScope st_Pair_sort_of) := ⟨rfl, rfl, rfl, by decide +kernel, rfl, by decide +kernel, by decide +kernel⟩
theorem ok_Pair_sort_of {f : Addr} {fd : FuncData} (F : Fun K "sort_of" "Pair.sort_of" st_Pair_sort_of f fd) (g : Gok K G) (B : Blt mg)  : FnOk P w K mg base (L2.CX P w) 1 f fd ["self"] (SpM K G f_Pair_sort_of 1) :=
  mk_fn F sc_Pair_sort_of fun cdv A outer s H E d =>
 (ss_one (s_ret d_str))
theorem sc_Plain_sort_of : FnScope ["self"] ["self"] (defScope st_Plain_sort_of) := ⟨rfl, rfl, rfl, by decide +kernel, rfl, by decide +kernel, by decide +kernel⟩
theorem ok_Plain_sort_of {f : Addr} {fd : FuncData} (F : Fun K "sort_of" "Plain.sort_of" st_Plain_sort_of f fd) (g : Gok K G) (B : Blt mg)  : FnOk P w K mg base (L2.CX P w) 1 f fd ["self"] (SpM K G f_Plain_sort_of 1) :=
  mk_fn F sc_Plain_sort_of fun cdv A outer s H E d =>
 (ss_one (s_ret d_str))
theorem sc_Plain_words : FnScope ["self"] ["self"] (defScope st_Plain_words) := ⟨rfl, rfl, rfl, by decide +kernel, rfl, by decide +kernel, by decide +kernel⟩
theorem ok_Plain_words {f : Addr} {fd : FuncData} (F : Fun K "words" "Plain.words" st_Plain_words f fd) (g : Gok K G) (B : Blt mg)  : FnOk P w K mg base (L2.CX P w) 1 f fd ["self"] (SpM K G f_Plain_words 1) :=
  mk_fn F sc_Plain_words fun cdv A outer s H E d =>
 (ss_one (s_ret (d_fld .last_words g (d_var 0))))
theorem sc_Thing_fields : FnScope ["self"] ["self"] (defScope st_Thing_fields) := ⟨rfl, rfl, rfl, by decide +kernel, rfl, by decide +kernel, by decide +kernel⟩
theorem ok_Thing_fields {f : Addr} {fd : FuncData} (F : Fun K "fields" "Thing.fields" st_Thing_fields f fd) (g : Gok K G) (B : Blt mg)  : FnOk P w K mg base (L2.CX P w) 1 f fd ["self"] (SpM K G f_Thing_fields 1) :=
  mk_fn F sc_Thing_fields fun cdv A outer s H E d =>
 (ss_one (s_ret (d_callT call_list_of s_list B.list (a_cons (d_fld .row g (d_var 0)) a_nil))))
theorem sc_Thing_sort_of : FnScope ["self"] ["self"] (defScope st_Thing_sort_of) := ⟨rfl, rfl, rfl, by decide +kernel, rfl, by decide +kernel, by decide +kernel⟩
theorem ok_Thing_sort_of {f : Addr} {fd : FuncData} (F : Fun K "sort_of" "Thing.sort_of" st_Thing_sort_of f fd) (g : Gok K G) (B : Blt mg)  : FnOk P w K mg base (L2.CX P w) 1 f fd ["self"] (SpM K G f_Thing_sort_of 1) :=
  mk_fn F sc_Thing_sort_of fun cdv A outer s H E d =>
 (ss_one (s_ret d_str))
theorem sc_Thing_words : FnScope ["self"] ["self"] (defScope st_Thing_words) := ⟨rfl, rfl, rfl, by decide +kernel, rfl, by decide +kernel, by decide +kernel⟩
theorem ok_Thing_words {f : Addr} {fd : FuncData} (F : Fun K "words" "Thing.words" st_Thing_words f fd) (g : Gok K G) (B : Blt mg)  : FnOk P w K mg base (L2.CX P w) 1 f fd ["self"] (SpM K G f_Thing_words 1) :=
  mk_fn F sc_Thing_words fun cdv A outer s H E d =>
 (ss_one (s_ret d_non))
theorem sc_laid : FnScope ["thing", "serial", "marked", "some", "kind"] ["thing", "serial", "marked"] (defScope st_laid) := ⟨rfl, rfl, rfl, by decide +kernel, rfl, by decide +kernel, by decide +kernel⟩
theorem ok_laid {f : Addr} {fd : FuncData} (F : Fun K "laid" "laid" st_laid f fd) (g : Gok K G) (B : Blt mg) (X_Thing_sort_of : FnC P w K mg base G 1 .Thing "sort_of" f_Thing_sort_of 1) (X_Plain_sort_of : FnC P w K mg base G 1 .Plain "sort_of" f_Plain_sort_of 1) (X_Pair_sort_of : FnC P w K mg base G 1 .Pair "sort_of" f_Pair_sort_of 1) (F_words_cell : FnG P w K mg base G 1 "words_cell" f_words_cell 1) (X_Thing_words : FnC P w K mg base G 1 .Thing "words" f_Thing_words 1) (X_Plain_words : FnC P w K mg base G 1 .Plain "words" f_Plain_words 1) (X_Pair_words : FnC P w K mg base G 1 .Pair "words" f_Thing_words 1) (X_Thing_fields : FnC P w K mg base G 1 .Thing "fields" f_Thing_fields 1) (X_Plain_fields : FnC P w K mg base G 1 .Plain "fields" f_Thing_fields 1) (X_Pair_fields : FnC P w K mg base G 1 .Pair "fields" f_Thing_fields 1) (T_SORTS : GlT K mg "SORTS" c_SORTS) (F_header : FnG P w K mg base G 1 "header" f_header 4) : FnOk P w K mg base (L2.CX P w) 2 f fd ["thing", "serial", "marked"] (SpM K G f_laid 3) :=
  mk_fn F sc_laid fun cdv A outer s H E d =>
 (ss_blk 3 (bb_scp (bb_cons (s_set d (d_lst (a_cons (d_var 1) a_nil)))
 (bb_cons (s_if (t_cmp (op_eqU d) s_eq (d_alt (d_meth0 X_Thing_sort_of g d (d_var 0)) (d_alt (d_meth0 X_Plain_sort_of g d (d_var 0)) (d_meth0 X_Pair_sort_of g d (d_var 0)))) d_str (nomark _))
 (ss_one (s_expr (d_bm PySem.F.plainAttrs_list PySem.F.slot_list_append PySem.F.type_list_append mt_append s_append (fun _ _ _ _ _ em r h => tyL em r h) (d_var 3) (a_cons (d_call F_words_cell d (a_cons (d_alt (d_meth0 X_Thing_words g d (d_var 0)) (d_alt (d_meth0 X_Plain_words g d (d_var 0)) (d_meth0 X_Pair_words g d (d_var 0)))) a_nil)) a_nil))))
 ss_nil)
 (bb_one (s_expr (d_bm PySem.F.plainAttrs_list PySem.F.slot_list_extend PySem.F.type_list_extend mt_extend s_extend (fun _ _ _ _ _ em r h => tyL em r h) (d_var 3) (a_cons (d_alt (d_meth0 X_Thing_fields g d (d_var 0)) (d_alt (d_meth0 X_Plain_fields g d (d_var 0)) (d_meth0 X_Pair_fields g d (d_var 0)))) a_nil)))))))
 (ss_cons (s_set d (d_tix T_SORTS (a_cons (d_alt (d_meth0 X_Thing_sort_of g d (d_var 0)) (d_alt (d_meth0 X_Plain_sort_of g d (d_var 0)) (d_meth0 X_Pair_sort_of g d (d_var 0)))) a_nil)))
 (ss_one (s_ret (d_bin op_addU s_add (d_lst (a_cons (d_call F_header d (a_cons (d_var 4) (a_cons (d_var 2) (a_cons (d_cmp op_notN s_isNot (d_alt (d_meth0 X_Thing_words g d (d_var 0)) (d_alt (d_meth0 X_Plain_words g d (d_var 0)) (d_meth0 X_Pair_words g d (d_var 0)))) d_non (nomark _)) (a_cons (d_bin op_addU s_add (d_callB cr_lenU s_len B.len (a_cons (d_var 3) a_nil)) d_int) a_nil))))) a_nil)) (d_var 3))))))
theorem sc_Rooms_fill_in : FnScope ["self", "place", "some", "at", "value"] ["self", "place", "some"] (defScope st_Rooms_fill_in) := ⟨rfl, rfl, rfl, by decide +kernel, rfl, by decide +kernel, by decide +kernel⟩
theorem ok_Rooms_fill_in {f : Addr} {fd : FuncData} (F : Fun K "fill_in" "Rooms.fill_in" st_Rooms_fill_in f fd) (g : Gok K G) (B : Blt mg)  : FnOk P w K mg base (L2.CX P w) 1 f fd ["self", "place", "some"] (SpM K G f_Rooms_fill_in 3) :=
  mk_fn F sc_Rooms_fill_in fun cdv A outer s H E d =>
 (ss_one (s_clr [3, 4] (s_for d (i_enum B.enumerate (a_cons (d_var 2) a_nil)) (g_tp d (gs_cons d (gs_cons d gs_nil)))
 (ss_one (s_clr [3, 4] (s_setL (d_fld .inside g (d_var 0)) (d_bin op_addU s_add (d_var 1) (d_var 3)) (d_var 4)))))))
theorem sc_Rooms_gap_in : FnScope ["self", "room", "length", "free", "place"] ["self", "room", "length"] (defScope st_Rooms_gap_in) := ⟨rfl, rfl, rfl, by decide +kernel, rfl, by decide +kernel, by decide +kernel⟩
theorem ok_Rooms_gap_in {f : Addr} {fd : FuncData} (F : Fun K "gap_in" "Rooms.gap_in" st_Rooms_gap_in f fd) (g : Gok K G) (B : Blt mg)  : FnOk P w K mg base (L2.CX P w) 1 f fd ["self", "room", "length"] (SpM K G f_Rooms_gap_in 3) :=
  mk_fn F sc_Rooms_gap_in fun cdv A outer s H E d =>
 (ss_cons (s_set d d_int)
 (ss_cons (s_clr [4, 3] (s_for d (i_rng2 B.range (a_cons (d_bin op_mulU s_mul (d_var 1) (d_fld .cells g (d_var 0))) (a_cons (d_bin op_mulU s_mul (d_bin op_addU s_add (d_var 1) d_int) (d_fld .cells g (d_var 0))) a_nil))) (g_nm d)
 (ss_cons (s_aug d ip_addU s_addI d_int)
 (ss_cons (s_if (t_cmp op_notN s_isNot (d_ix (d_fld .inside g (d_var 0)) (d_var 4)) d_non (nomark _))
 (ss_one (s_set d d_int))
 ss_nil)
 (ss_one (s_clr [4] (s_if (t_cmp (op_eqU d) s_eq (d_var 3) (d_var 2) (nomark _))
 (ss_one (s_ret (d_bin op_addU s_add (d_bin op_sub s_sub (d_var 4) (d_var 2)) d_int)))
 ss_nil)))))))
 (ss_one (s_ret d_non))))
theorem sc_Rooms_gap : FnScope ["self", "length", "room", "place"] ["self", "length"] (defScope st_Rooms_gap) := ⟨rfl, rfl, rfl, by decide +kernel, rfl, by decide +kernel, by decide +kernel⟩
theorem ok_Rooms_gap {f : Addr} {fd : FuncData} (F : Fun K "gap" "Rooms.gap" st_Rooms_gap f fd) (g : Gok K G) (B : Blt mg) (X_Rooms_gap_in : FnC P w K mg base G 1 .Rooms "gap_in" f_Rooms_gap_in 3) : FnOk P w K mg base (L2.CX P w) 2 f fd ["self", "length"] (SpM K G f_Rooms_gap 2) :=
  mk_fn F sc_Rooms_gap fun cdv A outer s H E d =>
 (ss_cons (s_clr [2, 3] (s_for d (i_rng1 B.range (a_cons (d_fld .many g (d_var 0)) a_nil)) (g_nm d)
 (ss_cons (s_set d (d_meth X_Rooms_gap_in g d (d_var 0) (a_cons (d_var 2) (a_cons (d_var 1) a_nil))))
 (ss_one (s_clr [2, 3] (s_if (t_cmp op_notN s_isNot (d_var 3) d_non (nomark _))
 (ss_one (s_ret (d_var 3)))
 ss_nil))))))
 (ss_one (s_ret d_non)))
theorem sc_Memory_put_in : FnScope ["self", "thing", "serial", "marked", "some", "place"] ["self", "thing", "serial", "marked"] (defScope st_Memory_put_in) := ⟨rfl, rfl, rfl, by decide +kernel, rfl, by decide +kernel, by decide +kernel⟩
theorem ok_Memory_put_in {f : Addr} {fd : FuncData} (F : Fun K "put_in" "Memory.put_in" st_Memory_put_in f fd) (g : Gok K G) (B : Blt mg) (F_laid : FnG P w K mg base G 2 "laid" f_laid 3) (X_Rooms_gap : FnC P w K mg base G 2 .Rooms "gap" f_Rooms_gap 2) (X_Rooms_fill_in : FnC P w K mg base G 1 .Rooms "fill_in" f_Rooms_fill_in 3) : FnOk P w K mg base (L2.CX P w) 3 f fd ["self", "thing", "serial", "marked"] (SpM K G f_Memory_put_in 4) :=
  mk_fn F sc_Memory_put_in fun cdv A outer s H E d =>
 (ss_cons (s_set d (d_call F_laid d (a_cons (d_var 1) (a_cons (d_var 2) (a_cons (d_var 3) a_nil)))))
 (ss_cons (s_set d (d_meth X_Rooms_gap g d (d_fld .rooms g (d_var 0)) (a_cons (d_callB cr_lenU s_len B.len (a_cons (d_var 4) a_nil)) a_nil)))
 (ss_cons (s_if (t_cmp op_notN s_isNot (d_var 5) d_non (nomark _))
 (ss_one (s_expr (d_meth X_Rooms_fill_in g d (d_fld .rooms g (d_var 0)) (a_cons (d_var 5) (a_cons (d_var 4) a_nil)))))
 ss_nil)
 (ss_one (s_ret (d_var 5))))))
theorem sc_law_made : FnScope ["_law_state", "_law_thing", "_law_shape", "_law_slot", "_law_marked", "_law_place"] ["_law_state", "_law_thing", "_law_shape", "_law_slot", "_law_marked"] (defScope st_law_made) := ⟨rfl, rfl, rfl, by decide +kernel, rfl, by decide +kernel, by decide +kernel⟩
theorem ok_law_made {f : Addr} {fd : FuncData} (F : Fun K "_law_made" "_law_made" st_law_made f fd) (g : Gok K G) (B : Blt mg) (X_Memory_put_in : FnC P w K mg base G 3 .Memory "put_in" f_Memory_put_in 4) : FnOk P w K mg base (L2.CX P w) 4 f fd ["_law_state", "_law_thing", "_law_shape", "_law_slot", "_law_marked"] (SpM K G f_law_made 5) :=
  mk_fnZ 1 F sc_law_made fun cdv A outer s H E d =>
 (ss_cons (s_set d (d_meth X_Memory_put_in g d (d_ix (d_var 0) d_int) (a_cons (d_var 1) (a_cons (d_bin op_addU s_add d_int (d_callB cr_lenU s_len B.len (a_cons (d_ix (d_var 0) d_int) a_nil))) (a_cons (d_var 4) a_nil)))))
 (ss_one (s_if (t_cmp op_notN s_isNot (d_var 5) d_non (nomark _))
 (ss_cons (s_dput d (d_ix (d_var 0) d_int) (d_var 5) (d_var 2))
 (ss_one (s_dput d (d_ix (d_var 0) d_int) (d_var 3) (d_var 5))))
 ss_nil)))
theorem sc_Thing_init : FnScope ["self", "row"] ["self", "row"] (defScope st_Thing_init) := ⟨rfl, rfl, rfl, by decide +kernel, rfl, by decide +kernel, by decide +kernel⟩
theorem ok_Thing_init {f : Addr} {fd : FuncData} (F : Fun K "__init__" "Thing.__init__" st_Thing_init f fd) (g : Gok K G) (B : Blt mg)  : FnOk P w K mg base (L2.CX P w) 1 f fd ["self", "row"] (SpM K G f_Thing_init 2) :=
  mk_fn F sc_Thing_init fun cdv A outer s H E d =>
 (ss_one (s_fld .row g (d_var 0) (d_callT call_list_of s_list B.list (a_cons (d_var 1) a_nil))))
theorem sc_pair : FnScope ["key", "value"] ["key", "value"] (defScope st_pair) := ⟨rfl, rfl, rfl, by decide +kernel, rfl, by decide +kernel, by decide +kernel⟩
theorem ok_pair {f : Addr} {fd : FuncData} (F : Fun K "pair" "pair" st_pair f fd) (g : Gok K G) (B : Blt mg) (M_Pair : FnM P w K mg base G 1 .Pair f_Thing_init 2) : FnOk P w K mg base (L2.CX P w) 3 f fd ["key", "value"] (SpM K G f_pair 2) :=
  mk_fn F sc_pair fun cdv A outer s H E d =>
 (ss_one (s_ret (d_ex false (d_make M_Pair d (a_cons (d_lst (a_cons (d_var 0) (a_cons (d_var 1) a_nil))) a_nil)))))
theorem sc_Plain_init : FnScope ["self", "row", "last_words"] ["self", "row", "last_words"] (defScope st_Plain_init) := ⟨rfl, rfl, rfl, by decide +kernel, rfl, by decide +kernel, by decide +kernel⟩
theorem ok_Plain_init {f : Addr} {fd : FuncData} (F : Fun K "__init__" "Plain.__init__" st_Plain_init f fd) (g : Gok K G) (B : Blt mg) (U_Thing___init__ : FnU P w K mg base G 1 .Thing "__init__" f_Thing_init 2) : FnOk P w K mg base (L2.CX P w) 2 f fd ["self", "row", "last_words"] (SpM K G f_Plain_init 3) :=
  mk_fn F sc_Plain_init fun cdv A outer s H E d =>
 (ss_cons (s_expr (d_ucall (c := .Thing) U_Thing___init__ d (a_cons (d_var 0) (a_cons (d_var 1) a_nil))))
 (ss_one (s_fld .last_words g (d_var 0) (d_var 2))))
theorem sc_plain : FnScope ["fields", "words"] ["fields", "words"] (defScope st_plain) := ⟨rfl, rfl, rfl, by decide +kernel, rfl, by decide +kernel, by decide +kernel⟩
theorem ok_plain {f : Addr} {fd : FuncData} (F : Fun K "plain" "plain" st_plain f fd) (g : Gok K G) (B : Blt mg) (M_Plain : FnM P w K mg base G 2 .Plain f_Plain_init 3) : FnOk P w K mg base (L2.CX P w) 4 f fd ["fields", "words"] (SpM K G f_plain 2) :=
  mk_fn F sc_plain fun cdv A outer s H E d =>
 (ss_one (s_ret (d_ex false (d_make M_Plain d (a_cons (d_var 0) (a_cons (d_var 1) a_nil))))))
theorem sc_weak : FnScope ["field"] ["field"] (defScope st_weak) := ⟨rfl, rfl, rfl, by decide +kernel, rfl, by decide +kernel, by decide +kernel⟩
theorem ok_weak {f : Addr} {fd : FuncData} (F : Fun K "weak" "weak" st_weak f fd) (g : Gok K G) (B : Blt mg) (M_Thing : FnM P w K mg base G 1 .Thing f_Thing_init 2) : FnOk P w K mg base (L2.CX P w) 3 f fd ["field"] (SpM K G f_weak 1) :=
  mk_fn F sc_weak fun cdv A outer s H E d =>
 (ss_one (s_ret (d_ex false (d_make M_Thing d (a_cons (d_lst (a_cons (d_var 0) a_nil)) a_nil)))))
theorem sc_law_new : FnScope ["_law_state", "_law_parts", "_law_marked", "_law_way", "_law_one", "_law_two", "_law_three", "_law_at", "_law_nothing", "_law_key", "_law_value"] ["_law_state", "_law_parts", "_law_marked"] (defScope st_law_new) := ⟨rfl, rfl, rfl, by decide +kernel, rfl, by decide +kernel, by decide +kernel⟩
theorem ok_law_new {f : Addr} {fd : FuncData} (F : Fun K "_law_new" "_law_new" st_law_new f fd) (g : Gok K G) (B : Blt mg) (F_law_made : FnG P w K mg base G 4 "_law_made" f_law_made 5) (F_plain : FnG P w K mg base G 4 "plain" f_plain 2) (F_pair : FnG P w K mg base G 3 "pair" f_pair 2) (F_weak : FnG P w K mg base G 3 "weak" f_weak 1) : FnOk P w K mg base (L2.CX P w) 5 f fd ["_law_state", "_law_parts", "_law_marked"] (SpM K G f_law_new 3) :=
  mk_fn F sc_law_new fun cdv A outer s H E d =>
 (ss_cons (s_asg (d_var 1) (g_tp d (gs_cons d (gs_cons d (gs_cons d (gs_cons d (gs_cons d gs_nil)))))))
 (ss_cons (s_set d (d_tup (a_cons d_str a_nil)))
 (ss_one (s_clr [9, 10] (s_if (t_cmp (op_eqU d) s_eq (d_var 3) d_int (nomark _))
 (ss_one (s_expr (d_call F_law_made d (a_cons (d_var 0) (a_cons (d_call F_plain d (a_cons (d_repD (a_cons (d_var 8) a_nil) (d_var 7)) (a_cons d_non a_nil))) (a_cons (d_tup (a_cons d_str (a_cons (d_repD (a_cons (d_var 8) a_nil) (d_var 7)) a_nil))) (a_cons (d_var 4) (a_cons (d_var 2) a_nil))))))))
 (ss_one (s_clr [9, 10] (s_if (PW.pt (t_and (t_cmp (op_eqU d) s_eq (d_var 3) d_int (nomark _)) (t_and1 (t_din d (d_var 5) (d_ix (d_var 0) d_int)))))
 (ss_cons (s_set d (d_tup (a_cons d_str (a_cons (d_dget d (d_ix (d_var 0) d_int) (d_var 5)) a_nil))))
 (ss_cons (s_set d (d_var 8))
 (ss_cons (s_if (t_din d (d_var 6) (d_ix (d_var 0) d_int))
 (ss_one (s_set d (d_tup (a_cons d_str (a_cons (d_dget d (d_ix (d_var 0) d_int) (d_var 6)) a_nil)))))
 ss_nil)
 (ss_one (s_expr (d_call F_law_made d (a_cons (d_var 0) (a_cons (d_call F_pair d (a_cons (d_var 9) (a_cons (d_var 10) a_nil))) (a_cons (d_tup (a_cons d_str (a_cons (d_lst (a_cons (d_var 9) (a_cons (d_var 10) a_nil))) a_nil))) (a_cons (d_var 4) (a_cons (d_var 2) a_nil)))))))))))
 (ss_one (s_clr [10] (s_if (PW.pt (t_and (t_cmp (op_eqU d) s_eq (d_var 3) d_int (nomark _)) (t_and1 (t_din d (d_var 5) (d_ix (d_var 0) d_int)))))
 (ss_cons (s_set d (d_tup (a_cons d_str (a_cons (d_dget d (d_ix (d_var 0) d_int) (d_var 5)) a_nil))))
 (ss_one (s_expr (d_call F_law_made d (a_cons (d_var 0) (a_cons (d_call F_weak d (a_cons (d_var 10) a_nil)) (a_cons (d_tup (a_cons d_str (a_cons (d_lst (a_cons (d_var 10) a_nil)) a_nil))) (a_cons (d_var 4) (a_cons (d_var 2) a_nil)))))))))
 ss_nil)))))))))))
theorem sc_is_marked : FnScope ["number"] ["number"] (defScope st_is_marked) := ⟨rfl, rfl, rfl, by decide +kernel, rfl, by decide +kernel, by decide +kernel⟩
theorem ok_is_marked {f : Addr} {fd : FuncData} (F : Fun K "is_marked" "is_marked" st_is_marked f fd) (g : Gok K G) (B : Blt mg)  : FnOk P w K mg base (L2.CX P w) 1 f fd ["number"] (SpM K G f_is_marked 1) :=
  mk_fn F sc_is_marked fun cdv A outer s H E d =>
 (ss_one (s_ret (d_cmp (op_eqU d) s_eq (d_bin op_and s_band (d_bin op_shr s_shr (d_var 0) d_int) d_int) d_int (nomark _))))
theorem sc_Rooms_read : FnScope ["self", "place"] ["self", "place"] (defScope st_Rooms_read) := ⟨rfl, rfl, rfl, by decide +kernel, rfl, by decide +kernel, by decide +kernel⟩
theorem ok_Rooms_read {f : Addr} {fd : FuncData} (F : Fun K "read" "Rooms.read" st_Rooms_read f fd) (g : Gok K G) (B : Blt mg)  : FnOk P w K mg base (L2.CX P w) 1 f fd ["self", "place"] (SpM K G f_Rooms_read 2) :=
  mk_fn F sc_Rooms_read fun cdv A outer s H E d =>
 (ss_one (s_ret (d_ix (d_fld .inside g (d_var 0)) (d_var 1))))
theorem sc_Memory_marked_at : FnScope ["self", "place"] ["self", "place"] (defScope st_Memory_marked_at) := ⟨rfl, rfl, rfl, by decide +kernel, rfl, by decide +kernel, by decide +kernel⟩
theorem ok_Memory_marked_at {f : Addr} {fd : FuncData} (F : Fun K "marked_at" "Memory.marked_at" st_Memory_marked_at f fd) (g : Gok K G) (B : Blt mg) (F_is_marked : FnG P w K mg base G 1 "is_marked" f_is_marked 1) (X_Rooms_read : FnC P w K mg base G 1 .Rooms "read" f_Rooms_read 2) : FnOk P w K mg base (L2.CX P w) 2 f fd ["self", "place"] (SpM K G f_Memory_marked_at 2) :=
  mk_fn F sc_Memory_marked_at fun cdv A outer s H E d =>
 (ss_one (s_ret (d_call F_is_marked d (a_cons (d_meth X_Rooms_read g d (d_fld .rooms g (d_var 0)) (a_cons (d_var 1) a_nil)) a_nil))))
theorem sc_has_words : FnScope ["number"] ["number"] (defScope st_has_words) := ⟨rfl, rfl, rfl, by decide +kernel, rfl, by decide +kernel, by decide +kernel⟩
theorem ok_has_words {f : Addr} {fd : FuncData} (F : Fun K "has_words" "has_words" st_has_words f fd) (g : Gok K G) (B : Blt mg)  : FnOk P w K mg base (L2.CX P w) 1 f fd ["number"] (SpM K G f_has_words 1) :=
  mk_fn F sc_has_words fun cdv A outer s H E d =>
 (ss_one (s_ret (d_cmp (op_eqU d) s_eq (d_bin op_and s_band (d_bin op_shr s_shr (d_var 0) d_int) d_int) d_int (nomark _))))
theorem sc_kind_in : FnScope ["number"] ["number"] (defScope st_kind_in) := ⟨rfl, rfl, rfl, by decide +kernel, rfl, by decide +kernel, by decide +kernel⟩
theorem ok_kind_in {f : Addr} {fd : FuncData} (F : Fun K "kind_in" "kind_in" st_kind_in f fd) (g : Gok K G) (B : Blt mg)  : FnOk P w K mg base (L2.CX P w) 1 f fd ["number"] (SpM K G f_kind_in 1) :=
  mk_fn F sc_kind_in fun cdv A outer s H E d =>
 (ss_one (s_ret (d_bin op_and s_band (d_var 0) d_int)))
theorem sc_size_in : FnScope ["number"] ["number"] (defScope st_size_in) := ⟨rfl, rfl, rfl, by decide +kernel, rfl, by decide +kernel, by decide +kernel⟩
theorem ok_size_in {f : Addr} {fd : FuncData} (F : Fun K "size_in" "size_in" st_size_in f fd) (g : Gok K G) (B : Blt mg)  : FnOk P w K mg base (L2.CX P w) 1 f fd ["number"] (SpM K G f_size_in 1) :=
  mk_fn F sc_size_in fun cdv A outer s H E d =>
 (ss_one (s_ret (d_bin op_shr s_shr (d_var 0) d_int)))
theorem sc_with_mark : FnScope ["number", "marked"] ["number", "marked"] (defScope st_with_mark) := ⟨rfl, rfl, rfl, by decide +kernel, rfl, by decide +kernel, by decide +kernel⟩
theorem ok_with_mark {f : Addr} {fd : FuncData} (F : Fun K "with_mark" "with_mark" st_with_mark f fd) (g : Gok K G) (B : Blt mg) (F_header : FnG P w K mg base G 1 "header" f_header 4) (F_size_in : FnG P w K mg base G 1 "size_in" f_size_in 1) (F_has_words : FnG P w K mg base G 1 "has_words" f_has_words 1) (F_kind_in : FnG P w K mg base G 1 "kind_in" f_kind_in 1) : FnOk P w K mg base (L2.CX P w) 2 f fd ["number", "marked"] (SpM K G f_with_mark 2) :=
  mk_fn F sc_with_mark fun cdv A outer s H E d =>
 (ss_one (s_ret (d_call F_header d (a_cons (d_call F_kind_in d (a_cons (d_var 0) a_nil)) (a_cons (d_var 1) (a_cons (d_call F_has_words d (a_cons (d_var 0) a_nil)) (a_cons (d_call F_size_in d (a_cons (d_var 0) a_nil)) a_nil)))))))
theorem sc_Rooms_write : FnScope ["self", "place", "value"] ["self", "place", "value"] (defScope st_Rooms_write) := ⟨rfl, rfl, rfl, by decide +kernel, rfl, by decide +kernel, by decide +kernel⟩
theorem ok_Rooms_write {f : Addr} {fd : FuncData} (F : Fun K "write" "Rooms.write" st_Rooms_write f fd) (g : Gok K G) (B : Blt mg)  : FnOk P w K mg base (L2.CX P w) 1 f fd ["self", "place", "value"] (SpM K G f_Rooms_write 3) :=
  mk_fn F sc_Rooms_write fun cdv A outer s H E d =>
 (ss_one (s_setL (d_fld .inside g (d_var 0)) (d_var 1) (d_var 2)))
theorem sc_Memory_set_mark : FnScope ["self", "place", "marked"] ["self", "place", "marked"] (defScope st_Memory_set_mark) := ⟨rfl, rfl, rfl, by decide +kernel, rfl, by decide +kernel, by decide +kernel⟩
theorem ok_Memory_set_mark {f : Addr} {fd : FuncData} (F : Fun K "set_mark" "Memory.set_mark" st_Memory_set_mark f fd) (g : Gok K G) (B : Blt mg) (X_Rooms_write : FnC P w K mg base G 1 .Rooms "write" f_Rooms_write 3) (F_with_mark : FnG P w K mg base G 2 "with_mark" f_with_mark 2) (X_Rooms_read : FnC P w K mg base G 1 .Rooms "read" f_Rooms_read 2) : FnOk P w K mg base (L2.CX P w) 3 f fd ["self", "place", "marked"] (SpM K G f_Memory_set_mark 3) :=
  mk_fn F sc_Memory_set_mark fun cdv A outer s H E d =>
 (ss_one (s_expr (d_meth X_Rooms_write g d (d_fld .rooms g (d_var 0)) (a_cons (d_var 1) (a_cons (d_call F_with_mark d (a_cons (d_meth X_Rooms_read g d (d_fld .rooms g (d_var 0)) (a_cons (d_var 1) a_nil)) (a_cons (d_var 2) a_nil))) a_nil)))))
theorem sc_Marking_shade : FnScope ["self", "place"] ["self", "place"] (defScope st_Marking_shade) := ⟨rfl, rfl, rfl, by decide +kernel, rfl, by decide +kernel, by decide +kernel⟩
theorem ok_Marking_shade {f : Addr} {fd : FuncData} (F : Fun K "shade" "Marking.shade" st_Marking_shade f fd) (g : Gok K G) (B : Blt mg) (X_Memory_marked_at : FnC P w K mg base G 2 .Memory "marked_at" f_Memory_marked_at 2) (X_Memory_set_mark : FnC P w K mg base G 3 .Memory "set_mark" f_Memory_set_mark 3) : FnOk P w K mg base (L2.CX P w) 4 f fd ["self", "place"] (SpM K G f_Marking_shade 2) :=
  mk_fn F sc_Marking_shade fun cdv A outer s H E d =>
 (ss_one (s_if (t_not (t_val (d_meth X_Memory_marked_at g d (d_fld .memory g (d_var 0)) (a_cons (d_var 1) a_nil))))
 (ss_cons (s_expr (d_meth X_Memory_set_mark g d (d_fld .memory g (d_var 0)) (a_cons (d_var 1) (a_cons d_bl a_nil))))
 (ss_one (s_expr (d_bm PySem.F.plainAttrs_list PySem.F.slot_list_append PySem.F.type_list_append mt_append s_append (fun _ _ _ _ _ em r h => tyL em r h) (d_fld .line g (d_var 0)) (a_cons (d_var 1) a_nil)))))
 ss_nil))
theorem sc_Memory_sort_at : FnScope ["self", "place"] ["self", "place"] (defScope st_Memory_sort_at) := ⟨rfl, rfl, rfl, by decide +kernel, rfl, by decide +kernel, by decide +kernel⟩
theorem ok_Memory_sort_at {f : Addr} {fd : FuncData} (F : Fun K "sort_at" "Memory.sort_at" st_Memory_sort_at f fd) (g : Gok K G) (B : Blt mg) (T_SORTS : GlT K mg "SORTS" c_SORTS) (F_kind_in : FnG P w K mg base G 1 "kind_in" f_kind_in 1) (X_Rooms_read : FnC P w K mg base G 1 .Rooms "read" f_Rooms_read 2) : FnOk P w K mg base (L2.CX P w) 2 f fd ["self", "place"] (SpM K G f_Memory_sort_at 2) :=
  mk_fn F sc_Memory_sort_at fun cdv A outer s H E d =>
 (ss_one (s_ret (d_ix (d_glob T_SORTS.c) (d_call F_kind_in d (a_cons (d_meth X_Rooms_read g d (d_fld .rooms g (d_var 0)) (a_cons (d_var 1) a_nil)) a_nil)))))
theorem sc_Memory_first_field : FnScope ["self", "place"] ["self", "place"] (defScope st_Memory_first_field) := ⟨rfl, rfl, rfl, by decide +kernel, rfl, by decide +kernel, by decide +kernel⟩
theorem ok_Memory_first_field {f : Addr} {fd : FuncData} (F : Fun K "first_field" "Memory.first_field" st_Memory_first_field f fd) (g : Gok K G) (B : Blt mg) (X_Memory_sort_at : FnC P w K mg base G 2 .Memory "sort_at" f_Memory_sort_at 2) : FnOk P w K mg base (L2.CX P w) 3 f fd ["self", "place"] (SpM K G f_Memory_first_field 2) :=
  mk_fn F sc_Memory_first_field fun cdv A outer s H E d =>
 (ss_cons (s_if (t_cmp (op_eqU d) s_eq (d_meth X_Memory_sort_at g d (d_var 0) (a_cons (d_var 1) a_nil)) d_str (nomark _))
 (ss_one (s_ret (d_bin op_addU s_add (d_var 1) d_int)))
 ss_nil)
 (ss_one (s_ret (d_bin op_addU s_add (d_var 1) d_int))))
theorem sc_Memory_set_field : FnScope ["self", "place", "at", "value"] ["self", "place", "at", "value"] (defScope st_Memory_set_field) := ⟨rfl, rfl, rfl, by decide +kernel, rfl, by decide +kernel, by decide +kernel⟩
theorem ok_Memory_set_field {f : Addr} {fd : FuncData} (F : Fun K "set_field" "Memory.set_field" st_Memory_set_field f fd) (g : Gok K G) (B : Blt mg) (X_Rooms_write : FnC P w K mg base G 1 .Rooms "write" f_Rooms_write 3) (X_Memory_first_field : FnC P w K mg base G 3 .Memory "first_field" f_Memory_first_field 2) : FnOk P w K mg base (L2.CX P w) 4 f fd ["self", "place", "at", "value"] (SpM K G f_Memory_set_field 4) :=
  mk_fn F sc_Memory_set_field fun cdv A outer s H E d =>
 (ss_one (s_expr (d_meth X_Rooms_write g d (d_fld .rooms g (d_var 0)) (a_cons (d_bin op_addU s_add (d_meth X_Memory_first_field g d (d_var 0) (a_cons (d_var 1) a_nil)) (d_var 2)) (a_cons (d_var 3) a_nil)))))
theorem sc_is_thing : FnScope ["value"] ["value"] (defScope st_is_thing) := ⟨rfl, rfl, rfl, by decide +kernel, rfl, by decide +kernel, by decide +kernel⟩
theorem ok_is_thing {f : Addr} {fd : FuncData} (F : Fun K "is_thing" "is_thing" st_is_thing f fd) (g : Gok K G) (B : Blt mg)  : FnOk P w K mg base (L2.CX P w) 1 f fd ["value"] (SpM K G f_is_thing 1) :=
  mk_fn F sc_is_thing fun cdv A outer s H E d =>
 (ss_one (s_ret (d_cmp (op_eqU d) s_eq (d_ix (d_var 0) d_int) d_str (nomark _))))
theorem sc_named_by : FnScope ["value"] ["value"] (defScope st_named_by) := ⟨rfl, rfl, rfl, by decide +kernel, rfl, by decide +kernel, by decide +kernel⟩
theorem ok_named_by {f : Addr} {fd : FuncData} (F : Fun K "named_by" "named_by" st_named_by f fd) (g : Gok K G) (B : Blt mg) (F_is_thing : FnG P w K mg base G 1 "is_thing" f_is_thing 1) : FnOk P w K mg base (L2.CX P w) 2 f fd ["value"] (SpM K G f_named_by 1) :=
  mk_fn F sc_named_by fun cdv A outer s H E d =>
 (ss_cons (s_if (t_val (d_call F_is_thing d (a_cons (d_var 0) a_nil)))
 (ss_one (s_ret (d_lst (a_cons (d_ix (d_var 0) d_int) a_nil))))
 ss_nil)
 (ss_one (s_ret (d_lst a_nil))))
theorem sc_New_put_shades : FnScope ["self", "was", "becomes"] ["self", "was", "becomes"] (defScope st_New_put_shades) := ⟨rfl, rfl, rfl, by decide +kernel, rfl, by decide +kernel, by decide +kernel⟩
theorem ok_New_put_shades {f : Addr} {fd : FuncData} (F : Fun K "put_shades" "New.put_shades" st_New_put_shades f fd) (g : Gok K G) (B : Blt mg) (F_named_by : FnG P w K mg base G 2 "named_by" f_named_by 1) : FnOk P w K mg base (L2.CX P w) 3 f fd ["self", "was", "becomes"] (SpM K G f_New_put_shades 3) :=
  mk_fn F sc_New_put_shades fun cdv A outer s H E d =>
 (ss_one (s_ret (d_call F_named_by d (a_cons (d_var 2) a_nil))))
theorem sc_Old_put_shades : FnScope ["self", "was", "becomes"] ["self", "was", "becomes"] (defScope st_Old_put_shades) := ⟨rfl, rfl, rfl, by decide +kernel, rfl, by decide +kernel, by decide +kernel⟩
theorem ok_Old_put_shades {f : Addr} {fd : FuncData} (F : Fun K "put_shades" "Old.put_shades" st_Old_put_shades f fd) (g : Gok K G) (B : Blt mg) (F_named_by : FnG P w K mg base G 2 "named_by" f_named_by 1) : FnOk P w K mg base (L2.CX P w) 3 f fd ["self", "was", "becomes"] (SpM K G f_Old_put_shades 3) :=
  mk_fn F sc_Old_put_shades fun cdv A outer s H E d =>
 (ss_one (s_ret (d_call F_named_by d (a_cons (d_var 1) a_nil))))
theorem sc_law_put : FnScope ["_law_state", "_law_parts", "_law_fence", "_law_marking", "_law_way", "_law_one", "_law_two", "_law_three", "_law_at", "_law_place", "_law_value", "_law_other"] ["_law_state", "_law_parts", "_law_fence", "_law_marking"] (defScope st_law_put) := ⟨rfl, rfl, rfl, by decide +kernel, rfl, by decide +kernel, by decide +kernel⟩
theorem ok_law_put {f : Addr} {fd : FuncData} (F : Fun K "_law_put" "_law_put" st_law_put f fd) (g : Gok K G) (B : Blt mg) (X_New_put_shades : FnC P w K mg base G 3 .New "put_shades" f_New_put_shades 3) (X_Old_put_shades : FnC P w K mg base G 3 .Old "put_shades" f_Old_put_shades 3) (X_Marking_shade : FnC P w K mg base G 4 .Marking "shade" f_Marking_shade 2) (X_Memory_set_field : FnC P w K mg base G 4 .Memory "set_field" f_Memory_set_field 4) : FnOk P w K mg base (L2.CX P w) 5 f fd ["_law_state", "_law_parts", "_law_fence", "_law_marking"] (SpM K G f_law_put 4) :=
  mk_fn F sc_law_put fun cdv A outer s H E d =>
 (ss_cons (s_asg (d_var 1) (g_tp d (gs_cons d (gs_cons d (gs_cons d (gs_cons d (gs_cons d gs_nil)))))))
 (ss_cons (s_set d (d_dget1 d (d_ix (d_var 0) d_int) (d_var 5)))
 (ss_cons (s_if (PW.pt (t_or (t_cmp op_isN s_is (d_var 9) d_non (nomark _)) (t_or (t_cmp (op_neU d) s_ne (d_ix (d_dget d (d_ix (d_var 0) d_int) (d_var 9)) d_int) d_str (nomark _)) (t_or1 (t_cmp op_ge (s_cmpI (p := geI)) (d_var 8) (d_callB cr_lenU s_len B.len (a_cons (d_ix (d_dget d (d_ix (d_var 0) d_int) (d_var 9)) d_int) a_nil)) (nomark _))))))
 (ss_one s_retN)
 ss_nil)
 (ss_cons (s_set d (d_tup (a_cons d_str a_nil)))
 (ss_cons (s_if (t_din d (d_var 6) (d_ix (d_var 0) d_int))
 (ss_one (s_set d (d_tup (a_cons d_str (a_cons (d_dget d (d_ix (d_var 0) d_int) (d_var 6)) a_nil)))))
 ss_nil)
 (ss_cons (s_clr [11] (s_if (t_cmp op_notN s_isNot (d_var 3) d_non (nomark _))
 (ss_one (s_clr [11] (s_for d (i_list (d_alt (d_meth X_New_put_shades g d (d_var 2) (a_cons (d_alt (d_ix (d_ix (d_dget d (d_ix (d_var 0) d_int) (d_var 9)) d_int) (d_var 8)) (d_dget d (d_ix (d_dget d (d_ix (d_var 0) d_int) (d_var 9)) d_int) (d_var 8))) (a_cons (d_var 10) a_nil))) (d_meth X_Old_put_shades g d (d_var 2) (a_cons (d_alt (d_ix (d_ix (d_dget d (d_ix (d_var 0) d_int) (d_var 9)) d_int) (d_var 8)) (d_dget d (d_ix (d_dget d (d_ix (d_var 0) d_int) (d_var 9)) d_int) (d_var 8))) (a_cons (d_var 10) a_nil))))) (g_nm d)
 (ss_one (s_clr [11] (s_expr (d_meth X_Marking_shade g d (d_var 3) (a_cons (d_var 11) a_nil))))))))
 ss_nil))
 (ss_cons (s_expr (d_meth X_Memory_set_field g d (d_ix (d_var 0) d_int) (a_cons (d_var 9) (a_cons (d_var 8) (a_cons (d_var 10) a_nil)))))
 (ss_one (s_alt (s_setL (d_ix (d_dget d (d_ix (d_var 0) d_int) (d_var 9)) d_int) (d_var 8) (d_var 10)) (s_dput d (d_ix (d_dget d (d_ix (d_var 0) d_int) (d_var 9)) d_int) (d_var 8) (d_var 10)))))))))))
theorem sc_Fence_marks_new : FnScope ["self"] ["self"] (defScope st_Fence_marks_new) := ⟨rfl, rfl, rfl, by decide +kernel, rfl, by decide +kernel, by decide +kernel⟩
theorem ok_Fence_marks_new {f : Addr} {fd : FuncData} (F : Fun K "marks_new" "Fence.marks_new" st_Fence_marks_new f fd) (g : Gok K G) (B : Blt mg)  : FnOk P w K mg base (L2.CX P w) 1 f fd ["self"] (SpM K G f_Fence_marks_new 1) :=
  mk_fn F sc_Fence_marks_new fun cdv A outer s H E d =>
 (ss_one (s_ret d_bl))
theorem sc_Fence_shades_look : FnScope ["self"] ["self"] (defScope st_Fence_shades_look) := ⟨rfl, rfl, rfl, by decide +kernel, rfl, by decide +kernel, by decide +kernel⟩
theorem ok_Fence_shades_look {f : Addr} {fd : FuncData} (F : Fun K "shades_look" "Fence.shades_look" st_Fence_shades_look f fd) (g : Gok K G) (B : Blt mg)  : FnOk P w K mg base (L2.CX P w) 1 f fd ["self"] (SpM K G f_Fence_shades_look 1) :=
  mk_fn F sc_Fence_shades_look fun cdv A outer s H E d =>
 (ss_one (s_ret d_bl))
theorem sc_Marking_grey : FnScope ["self"] ["self"] (defScope st_Marking_grey) := ⟨rfl, rfl, rfl, by decide +kernel, rfl, by decide +kernel, by decide +kernel⟩
theorem ok_Marking_grey {f : Addr} {fd : FuncData} (F : Fun K "grey" "Marking.grey" st_Marking_grey f fd) (g : Gok K G) (B : Blt mg)  : FnOk P w K mg base (L2.CX P w) 1 f fd ["self"] (SpM K G f_Marking_grey 1) :=
  mk_fn F sc_Marking_grey fun cdv A outer s H E d =>
 (ss_one (s_ret (d_callT call_list_of s_list B.list (a_cons (d_fld .line g (d_var 0)) a_nil))))
theorem sc_made_of : FnScope ["sort", "fields", "words"] ["sort", "fields", "words"] (defScope st_made_of) := ⟨rfl, rfl, rfl, by decide +kernel, rfl, by decide +kernel, by decide +kernel⟩
theorem ok_made_of {f : Addr} {fd : FuncData} (F : Fun K "made_of" "made_of" st_made_of f fd) (g : Gok K G) (B : Blt mg) (M_Plain : FnM P w K mg base G 2 .Plain f_Plain_init 3) (M_Thing : FnM P w K mg base G 1 .Thing f_Thing_init 2) (M_Pair : FnM P w K mg base G 1 .Pair f_Thing_init 2) : FnOk P w K mg base (L2.CX P w) 4 f fd ["sort", "fields", "words"] (SpM K G f_made_of 3) :=
  mk_fn F sc_made_of fun cdv A outer s H E d =>
 (ss_cons (s_if (t_cmp (op_eqU d) s_eq (d_var 0) d_str (nomark _))
 (ss_one (s_ret (d_ex false (d_make M_Plain d (a_cons (d_var 1) (a_cons (d_var 2) a_nil))))))
 ss_nil)
 (ss_cons (s_if (t_cmp (op_eqU d) s_eq (d_var 0) d_str (nomark _))
 (ss_one (s_ret (d_ex false (d_make M_Thing d (a_cons (d_var 1) a_nil)))))
 ss_nil)
 (ss_one (s_ret (d_ex false (d_make M_Pair d (a_cons (d_var 1) a_nil)))))))
theorem sc_Memory_size_at : FnScope ["self", "place"] ["self", "place"] (defScope st_Memory_size_at) := ⟨rfl, rfl, rfl, by decide +kernel, rfl, by decide +kernel, by decide +kernel⟩
theorem ok_Memory_size_at {f : Addr} {fd : FuncData} (F : Fun K "size_at" "Memory.size_at" st_Memory_size_at f fd) (g : Gok K G) (B : Blt mg) (F_size_in : FnG P w K mg base G 1 "size_in" f_size_in 1) (X_Rooms_read : FnC P w K mg base G 1 .Rooms "read" f_Rooms_read 2) : FnOk P w K mg base (L2.CX P w) 2 f fd ["self", "place"] (SpM K G f_Memory_size_at 2) :=
  mk_fn F sc_Memory_size_at fun cdv A outer s H E d =>
 (ss_one (s_ret (d_call F_size_in d (a_cons (d_meth X_Rooms_read g d (d_fld .rooms g (d_var 0)) (a_cons (d_var 1) a_nil)) a_nil))))
theorem sc_Memory_thing_at : FnScope ["self", "place", "fields", "words", "at"] ["self", "place"] (defScope st_Memory_thing_at) := ⟨rfl, rfl, rfl, by decide +kernel, rfl, by decide +kernel, by decide +kernel⟩
theorem ok_Memory_thing_at {f : Addr} {fd : FuncData} (F : Fun K "thing_at" "Memory.thing_at" st_Memory_thing_at f fd) (g : Gok K G) (B : Blt mg) (X_Memory_size_at : FnC P w K mg base G 2 .Memory "size_at" f_Memory_size_at 2) (X_Memory_first_field : FnC P w K mg base G 3 .Memory "first_field" f_Memory_first_field 2) (X_Rooms_read : FnC P w K mg base G 1 .Rooms "read" f_Rooms_read 2) (F_has_words : FnG P w K mg base G 1 "has_words" f_has_words 1) (F_made_of : FnG P w K mg base G 4 "made_of" f_made_of 3) (X_Memory_sort_at : FnC P w K mg base G 2 .Memory "sort_at" f_Memory_sort_at 2) : FnOk P w K mg base (L2.CX P w) 5 f fd ["self", "place"] (SpM K G f_Memory_thing_at 2) :=
  mk_fn F sc_Memory_thing_at fun cdv A outer s H E d =>
 (ss_cons (s_setLcX (i := 2) (own := [("at", 4)]) (t := (.nm 4)) d (i_rng2 B.range (a_cons (d_meth X_Memory_first_field g d (d_var 0) (a_cons (d_var 1) a_nil)) (a_cons (d_bin op_addU s_add (d_var 1) (d_meth X_Memory_size_at g d (d_var 0) (a_cons (d_var 1) a_nil))) a_nil))) (by rfl) (sw_true rfl rfl rfl (by rfl)) (fun _ _ _ _ _ d => (g_nm d)) (fun _ _ _ _ _ d => ts_nil) (fun _ _ _ _ _ d => (d_meth X_Rooms_read g d (d_fld .rooms g (d_var 0)) (a_cons (d_var 4) a_nil))))
 (ss_cons (s_set d d_non)
 (ss_cons (s_if (t_val (d_call F_has_words d (a_cons (d_meth X_Rooms_read g d (d_fld .rooms g (d_var 0)) (a_cons (d_var 1) a_nil)) a_nil)))
 (ss_one (s_set d (d_ix (d_meth X_Rooms_read g d (d_fld .rooms g (d_var 0)) (a_cons (d_bin op_addU s_add (d_var 1) d_int) a_nil)) d_int)))
 ss_nil)
 (ss_one (s_ret (d_call F_made_of d (a_cons (d_meth X_Memory_sort_at g d (d_var 0) (a_cons (d_var 1) a_nil)) (a_cons (d_var 2) (a_cons (d_var 3) a_nil)))))))))
theorem sc_Plain_holds : FnScope ["self", "value"] ["self"] (defScope st_Plain_holds) := ⟨rfl, rfl, rfl, by decide +kernel, rfl, by decide +kernel, by decide +kernel⟩
theorem ok_Plain_holds {f : Addr} {fd : FuncData} (F : Fun K "holds" "Plain.holds" st_Plain_holds f fd) (g : Gok K G) (B : Blt mg) (F_is_thing : FnG P w K mg base G 1 "is_thing" f_is_thing 1) : FnOk P w K mg base (L2.CX P w) 2 f fd ["self"] (SpM K G f_Plain_holds 1) :=
  mk_fn F sc_Plain_holds fun cdv A outer s H E d =>
 (ss_one (s_ret (d_lcv (d_lc (own := [("value", 1)]) (t := (.nm 1)) d (i_list (d_fld .row g (d_var 0))) (by rfl) (fun _ _ _ _ _ d => (g_nm d)) (fun _ _ _ _ _ d => (ts_one (t_val (d_call F_is_thing d (a_cons (d_var 1) a_nil))))) (fun _ _ _ _ _ d => (d_ix (d_var 1) d_int))))))
theorem sc_Thing_holds : FnScope ["self"] ["self"] (defScope st_Thing_holds) := ⟨rfl, rfl, rfl, by decide +kernel, rfl, by decide +kernel, by decide +kernel⟩
theorem ok_Thing_holds {f : Addr} {fd : FuncData} (F : Fun K "holds" "Thing.holds" st_Thing_holds f fd) (g : Gok K G) (B : Blt mg)  : FnOk P w K mg base (L2.CX P w) 1 f fd ["self"] (SpM K G f_Thing_holds 1) :=
  mk_fn F sc_Thing_holds fun cdv A outer s H E d =>
 (ss_one (s_ret (d_lst a_nil)))
theorem sc_Marking_step : FnScope ["self", "place", "other"] ["self"] (defScope st_Marking_step) := ⟨rfl, rfl, rfl, by decide +kernel, rfl, by decide +kernel, by decide +kernel⟩
theorem ok_Marking_step {f : Addr} {fd : FuncData} (F : Fun K "step" "Marking.step" st_Marking_step f fd) (g : Gok K G) (B : Blt mg) (X_Thing_holds : FnC P w K mg base G 1 .Thing "holds" f_Thing_holds 1) (X_Memory_thing_at : FnC P w K mg base G 5 .Memory "thing_at" f_Memory_thing_at 2) (X_Plain_holds : FnC P w K mg base G 2 .Plain "holds" f_Plain_holds 1) (X_Pair_holds : FnC P w K mg base G 1 .Pair "holds" f_Thing_holds 1) (X_Marking_shade : FnC P w K mg base G 4 .Marking "shade" f_Marking_shade 2) : FnOk P w K mg base (L2.CX P w) 6 f fd ["self"] (SpM K G f_Marking_step 1) :=
  mk_fn F sc_Marking_step fun cdv A outer s H E d =>
 (ss_cons (s_set d (d_bm PySem.F.plainAttrs_list PySem.F.slot_list_pop PySem.F.type_list_pop mt_popAt s_popAt (fun _ _ _ _ _ em r h => tyL em r h) (d_fld .line g (d_var 0)) (a_cons d_int a_nil)))
 (ss_cons (s_clr [2] (s_for d (i_list (d_alt (d_meth0 X_Thing_holds g d (d_meth X_Memory_thing_at g d (d_fld .memory g (d_var 0)) (a_cons (d_var 1) a_nil))) (d_alt (d_meth0 X_Plain_holds g d (d_meth X_Memory_thing_at g d (d_fld .memory g (d_var 0)) (a_cons (d_var 1) a_nil))) (d_meth0 X_Pair_holds g d (d_meth X_Memory_thing_at g d (d_fld .memory g (d_var 0)) (a_cons (d_var 1) a_nil)))))) (g_nm d)
 (ss_one (s_clr [2] (s_expr (d_meth X_Marking_shade g d (d_var 0) (a_cons (d_var 2) a_nil)))))))
 (ss_one (s_ret (d_var 1)))))
theorem sc_Old_marks_new : FnScope ["self"] ["self"] (defScope st_Old_marks_new) := ⟨rfl, rfl, rfl, by decide +kernel, rfl, by decide +kernel, by decide +kernel⟩
theorem ok_Old_marks_new {f : Addr} {fd : FuncData} (F : Fun K "marks_new" "Old.marks_new" st_Old_marks_new f fd) (g : Gok K G) (B : Blt mg)  : FnOk P w K mg base (L2.CX P w) 1 f fd ["self"] (SpM K G f_Old_marks_new 1) :=
  mk_fn F sc_Old_marks_new fun cdv A outer s H E d =>
 (ss_one (s_ret d_bl))
theorem sc_Old_shades_look : FnScope ["self"] ["self"] (defScope st_Old_shades_look) := ⟨rfl, rfl, rfl, by decide +kernel, rfl, by decide +kernel, by decide +kernel⟩
theorem ok_Old_shades_look {f : Addr} {fd : FuncData} (F : Fun K "shades_look" "Old.shades_look" st_Old_shades_look f fd) (g : Gok K G) (B : Blt mg)  : FnOk P w K mg base (L2.CX P w) 1 f fd ["self"] (SpM K G f_Old_shades_look 1) :=
  mk_fn F sc_Old_shades_look fun cdv A outer s H E d =>
 (ss_one (s_ret d_bl))
theorem sc_law_deed : FnScope ["_law_state", "_law_parts", "_law_fence", "_law_marking", "_law_way", "_law_one", "_law_two", "_law_three", "_law_at", "_law_value"] ["_law_state", "_law_parts", "_law_fence", "_law_marking"] (defScope st_law_deed) := ⟨rfl, rfl, rfl, by decide +kernel, rfl, by decide +kernel, by decide +kernel⟩
theorem ok_law_deed {f : Addr} {fd : FuncData} (F : Fun K "_law_deed" "_law_deed" st_law_deed f fd) (g : Gok K G) (B : Blt mg) (F_law_new : FnG P w K mg base G 5 "_law_new" f_law_new 3) (X_New_marks_new : FnC P w K mg base G 1 .New "marks_new" f_Fence_marks_new 1) (X_Old_marks_new : FnC P w K mg base G 1 .Old "marks_new" f_Old_marks_new 1) (F_law_put : FnG P w K mg base G 5 "_law_put" f_law_put 4) (F_law_brought : FnG P w K mg base G 1 "_law_brought" f_law_brought 2) (X_New_shades_look : FnC P w K mg base G 1 .New "shades_look" f_Fence_shades_look 1) (X_Old_shades_look : FnC P w K mg base G 1 .Old "shades_look" f_Old_shades_look 1) (X_Marking_shade : FnC P w K mg base G 4 .Marking "shade" f_Marking_shade 2) (F_law_give : FnG P w K mg base G 1 "_law_give" f_law_give 3) (X_Marking_grey : FnC P w K mg base G 1 .Marking "grey" f_Marking_grey 1) (X_Marking_step : FnC P w K mg base G 6 .Marking "step" f_Marking_step 1) : FnOk P w K mg base (L2.CX P w) 7 f fd ["_law_state", "_law_parts", "_law_fence", "_law_marking"] (SpM K G f_law_deed 4) :=
  mk_fn F sc_law_deed fun cdv A outer s H E d =>
 (ss_cons (s_asg (d_var 1) (g_tp d (gs_cons d (gs_cons d (gs_cons d (gs_cons d (gs_cons d gs_nil)))))))
 (ss_one (s_clr [9] (s_if (t_cmp op_lt (s_cmpI (p := ltI)) (d_var 4) d_int (nomark _))
 (ss_one (s_expr (d_call F_law_new d (a_cons (d_var 0) (a_cons (d_var 1) (a_cons (d_and (d_cmp op_notN s_isNot (d_var 3) d_non (nomark _)) (d_one (d_alt (d_meth0 X_New_marks_new g d (d_var 2)) (d_meth0 X_Old_marks_new g d (d_var 2))))) a_nil))))))
 (ss_one (s_clr [9] (s_if (t_cmp op_lt (s_cmpI (p := ltI)) (d_var 4) d_int (nomark _))
 (ss_one (s_expr (d_call F_law_put d (a_cons (d_var 0) (a_cons (d_var 1) (a_cons (d_var 2) (a_cons (d_var 3) a_nil)))))))
 (ss_one (s_clr [9] (s_if (PW.pt (t_and (t_cmp op_lt (s_cmpI (p := ltI)) (d_var 4) d_int (nomark _)) (t_and1 (t_din d (d_var 6) (d_ix (d_var 0) d_int)))))
 (ss_ofB (bb_scp (bb_cons (s_set d (d_call F_law_brought d (a_cons (d_var 0) (a_cons (d_var 1) a_nil))))
 (bb_cons (s_if (PW.pt (t_and (t_cmp (op_eqU d) s_eq (d_var 4) d_int (nomark _)) (t_and (t_cmp op_notN s_isNot (d_var 3) d_non (nomark _)) (t_and (t_cmp (op_eqU d) s_eq (d_ix (d_var 9) d_int) d_str (nomark _)) (t_and1 (t_val (d_alt (d_meth0 X_New_shades_look g d (d_var 2)) (d_meth0 X_Old_shades_look g d (d_var 2)))))))))
 (ss_one (s_expr (d_meth X_Marking_shade g d (d_var 3) (a_cons (d_ix (d_var 9) d_int) a_nil))))
 ss_nil)
 (bb_one (s_expr (d_call F_law_give d (a_cons (d_var 0) (a_cons (d_var 5) (a_cons (d_var 9) a_nil))))))))))
 (ss_one (s_if (t_cmp (op_eqU d) s_eq (d_var 4) d_int (nomark _))
 (ss_one (s_expr (d_dpop2 (d_ix (d_var 0) d_int) (d_var 5) d_non)))
 (ss_one (s_if (PW.pt (t_and (t_cmp op_gt (s_cmpI (p := gtI)) (d_var 4) d_int (nomark _)) (t_and (t_cmp op_notN s_isNot (d_var 3) d_non (nomark _)) (t_and1 (t_cmp (op_neU d) s_ne (d_meth0 X_Marking_grey g d (d_var 3)) (d_lst a_nil) (nomark _))))))
 (ss_one (s_expr (d_meth0 X_Marking_step g d (d_var 3))))
 ss_nil))))))))))))))
theorem sc_law_closing : FnScope ["_law_things", "_law_some", "_law_there", "_law_place", "_law_many", "_law_sort", "_law_fields", "_law_wanted", "_law_value"] ["_law_things", "_law_some"] (defScope st_law_closing) := ⟨rfl, rfl, rfl, by decide +kernel, rfl, by decide +kernel, by decide +kernel⟩
theorem ok_law_closing {f : Addr} {fd : FuncData} (F : Fun K "_law_closing" "_law_closing" st_law_closing f fd) (g : Gok K G) (B : Blt mg)  : FnOk P w K mg base (L2.CX P w) 1 f fd ["_law_things", "_law_some"] (SpM K G f_law_closing 2) :=
  mk_fn F sc_law_closing fun cdv A outer s H E d =>
 (ss_blk 4 (bb_scp (bb_cons (s_set d d_dct)
 (bb_cons (s_clr [3] (s_for d (i_list (d_var 1)) (g_nm d)
 (ss_one (s_clr [3] (s_dput d (d_var 2) (d_var 3) d_bl)))))
 (bb_cons (s_set d (d_neg d_int))
 (bb_one (s_clr [4, 3, 5, 6, 7, 8] (s_while d (t_cmp (op_neU d) s_ne (d_var 4) (d_callB cr_lenU s_len B.len (a_cons (d_var 2) a_nil)) (nomark _))
 (ss_cons (s_set d (d_callB cr_lenU s_len B.len (a_cons (d_var 2) a_nil)))
 (ss_one (s_clr [3, 5, 6, 7, 8] (s_clr [3, 5, 6, 7, 8] (s_for d (i_list (d_callT (cr_listU d) s_listU B.list (a_cons (d_var 2) a_nil))) (g_nm d)
 (ss_cons (s_asg (d_dget d (d_var 0) (d_var 3)) (g_tp d (gs_cons d (gs_cons d gs_nil))))
 (ss_cons (s_set d (d_var 6))
 (ss_cons (s_if (t_cmp (op_neU d) s_ne (d_var 5) d_str (nomark _))
 (ss_one (s_set d (d_bin op_mulU s_mul (d_sl (d_var 6) (p_some d_int) p_none) (d_callT call_int1 s_intc B.int (a_cons (d_and (d_cmp (op_eqU d) s_eq (d_var 5) d_str (nomark _)) (d_and (d_cmp (op_eqU d) s_eq (d_ix (d_ix (d_var 6) d_int) d_int) d_str (nomark _)) (d_one (d_din d (d_ix (d_ix (d_var 6) d_int) d_int) (d_var 2))))) a_nil)))))
 ss_nil)
 (ss_one (s_clr [3, 5, 6, 7, 8] (s_clr [8] (s_for d (i_list (d_var 7)) (g_nm d)
 (ss_one (s_clr [8] (s_if (t_cmp (op_eqU d) s_eq (d_ix (d_var 8) d_int) d_str (nomark _))
 (ss_one (s_dput d (d_var 2) (d_ix (d_var 8) d_int) d_bl))
 ss_nil))))))))))))))))))))))
 (ss_one (s_ret (d_var 2))))
theorem sc_law_held : FnScope ["_law_state", "_law_marking", "_law_there", "_law_slot", "_law_place"] ["_law_state", "_law_marking"] (defScope st_law_held) := ⟨rfl, rfl, rfl, by decide +kernel, rfl, by decide +kernel, by decide +kernel⟩
theorem ok_law_held {f : Addr} {fd : FuncData} (F : Fun K "_law_held" "_law_held" st_law_held f fd) (g : Gok K G) (B : Blt mg) (F_law_closing : FnG P w K mg base G 1 "_law_closing" f_law_closing 2) (X_Memory_marked_at : FnC P w K mg base G 2 .Memory "marked_at" f_Memory_marked_at 2) : FnOk P w K mg base (L2.CX P w) 3 f fd ["_law_state", "_law_marking"] (SpM K G f_law_held 2) :=
  mk_fn F sc_law_held fun cdv A outer s H E d =>
 (ss_cons (s_set d (d_call F_law_closing d (a_cons (d_ix (d_var 0) d_int) (a_cons (d_lock (mOp2 getI (mVar 0) (mC (.int 0))) (d_lcv (d_lc (own := [("_law_place", 4)]) (t := (.nm 4)) d (i_keys (d_ix (d_var 0) d_int)) (by rfl) (fun _ _ _ _ _ d => (g_nm d)) (fun _ _ _ _ _ d => (ts_one (t_val (d_meth X_Memory_marked_at g d (d_ix (d_var 0) d_int) (a_cons (d_var 4) a_nil))))) (fun _ _ _ _ _ d => (d_var 4))))) a_nil))))
 (ss_cons (s_clr [3] (s_lock (mOp2 getI (mVar 0) (mC (.int 1))) (s_for d (i_keys (d_ix (d_var 0) d_int)) (g_nm d)
 (ss_one (s_clr [3] (s_if (t_dnin d (d_dget d (d_ix (d_var 0) d_int) (d_var 3)) (d_var 2))
 (ss_one (s_ret d_bl))
 ss_nil))))))
 (ss_one (s_ret d_bl))))
theorem sc_fence_of : FnScope ["word"] ["word"] (defScope st_fence_of) := ⟨rfl, rfl, rfl, by decide +kernel, rfl, by decide +kernel, by decide +kernel⟩
theorem ok_fence_of {f : Addr} {fd : FuncData} (F : Fun K "fence_of" "fence_of" st_fence_of f fd) (g : Gok K G) (B : Blt mg) (N_Old : FnN K mg G .Old) (N_New : FnN K mg G .New) : FnOk P w K mg base (L2.CX P w) 1 f fd ["word"] (SpM K G f_fence_of 1) :=
  mk_fn F sc_fence_of fun cdv A outer s H E d =>
 (ss_cons (s_if (t_cmp (op_eqU d) s_eq (d_var 0) d_str (nomark _))
 (ss_one (s_ret (d_makeN N_Old)))
 ss_nil)
 (ss_one (s_ret (d_makeN N_New))))
theorem sc_Marking_colour_of : FnScope ["self", "place"] ["self", "place"] (defScope st_Marking_colour_of) := ⟨rfl, rfl, rfl, by decide +kernel, rfl, by decide +kernel, by decide +kernel⟩
theorem ok_Marking_colour_of {f : Addr} {fd : FuncData} (F : Fun K "colour_of" "Marking.colour_of" st_Marking_colour_of f fd) (g : Gok K G) (B : Blt mg) (X_Memory_marked_at : FnC P w K mg base G 2 .Memory "marked_at" f_Memory_marked_at 2) : FnOk P w K mg base (L2.CX P w) 3 f fd ["self", "place"] (SpM K G f_Marking_colour_of 2) :=
  mk_fn F sc_Marking_colour_of fun cdv A outer s H E d =>
 (ss_cons (s_if (t_not (t_val (d_meth X_Memory_marked_at g d (d_fld .memory g (d_var 0)) (a_cons (d_var 1) a_nil))))
 (ss_one (s_ret d_str))
 ss_nil)
 (ss_cons (s_if (t_cmp op_in_seq s_inQ (d_var 1) (d_fld .line g (d_var 0)) (by rfl))
 (ss_one (s_ret d_str))
 ss_nil)
 (ss_one (s_ret d_str))))
theorem sc_Marking_init : FnScope ["self", "memory"] ["self", "memory"] (defScope st_Marking_init) := ⟨rfl, rfl, rfl, by decide +kernel, rfl, by decide +kernel, by decide +kernel⟩
theorem ok_Marking_init {f : Addr} {fd : FuncData} (F : Fun K "__init__" "Marking.__init__" st_Marking_init f fd) (g : Gok K G) (B : Blt mg)  : FnOk P w K mg base (L2.CX P w) 1 f fd ["self", "memory"] (SpM K G f_Marking_init 2) :=
  mk_fn F sc_Marking_init fun cdv A outer s H E d =>
 (ss_cons (s_fld .memory g (d_var 0) (d_var 1))
 (ss_one (s_fld .line g (d_var 0) (d_lst a_nil))))
theorem sc_Rooms_init : FnScope ["self", "many", "cells"] ["self", "many", "cells"] (defScope st_Rooms_init) := ⟨rfl, rfl, rfl, by decide +kernel, rfl, by decide +kernel, by decide +kernel⟩
theorem ok_Rooms_init {f : Addr} {fd : FuncData} (F : Fun K "__init__" "Rooms.__init__" st_Rooms_init f fd) (g : Gok K G) (B : Blt mg)  : FnOk P w K mg base (L2.CX P w) 1 f fd ["self", "many", "cells"] (SpM K G f_Rooms_init 3) :=
  mk_fn F sc_Rooms_init fun cdv A outer s H E d =>
 (ss_cons (s_fld .many g (d_var 0) (d_var 1))
 (ss_cons (s_fld .cells g (d_var 0) (d_var 2))
 (ss_one (s_fld .inside g (d_var 0) (d_repD (a_cons d_non a_nil) (d_bin op_mulU s_mul (d_var 1) (d_var 2)))))))
theorem sc_Memory_init : FnScope ["self", "many", "cells"] ["self", "many", "cells"] (defScope st_Memory_init) := ⟨rfl, rfl, rfl, by decide +kernel, rfl, by decide +kernel, by decide +kernel⟩
theorem ok_Memory_init {f : Addr} {fd : FuncData} (F : Fun K "__init__" "Memory.__init__" st_Memory_init f fd) (g : Gok K G) (B : Blt mg) (M_Rooms : FnM P w K mg base G 1 .Rooms f_Rooms_init 3) : FnOk P w K mg base (L2.CX P w) 3 f fd ["self", "many", "cells"] (SpM K G f_Memory_init 3) :=
  mk_fn F sc_Memory_init fun cdv A outer s H E d =>
 (ss_one (s_fld .rooms g (d_var 0) (d_make M_Rooms d (a_cons (d_var 1) (a_cons (d_var 2) a_nil)))))
theorem sc_law : FnScope ["_law_script", "_law_first", "_law_state", "_law_fence", "_law_marking", "_law_cells", "_law_k", "_law_before", "_law_slot", "_law_place"] ["_law_script"] (defScope st_law) := ⟨rfl, rfl, rfl, by decide +kernel, rfl, by decide +kernel, by decide +kernel⟩
theorem ok_law {f : Addr} {fd : FuncData} (F : Fun K "law" "law" st_law f fd) (g : Gok K G) (B : Blt mg) (F_law_cell_at : FnG P w K mg base G 1 "_law_cell_at" f_law_cell_at 2) (M_Memory : FnM P w K mg base G 3 .Memory f_Memory_init 3) (F_fence_of : FnG P w K mg base G 1 "fence_of" f_fence_of 1) (M_Marking : FnM P w K mg base G 1 .Marking f_Marking_init 2) (X_Marking_shade : FnC P w K mg base G 4 .Marking "shade" f_Marking_shade 2) (F_law_deed : FnG P w K mg base G 7 "_law_deed" f_law_deed 4) (F_law_cut : FnG P w K mg base G 1 "_law_cut" f_law_cut 2) (F_law_cell_by : FnG P w K mg base G 1 "_law_cell_by" f_law_cell_by 2) (X_Marking_colour_of : FnC P w K mg base G 3 .Marking "colour_of" f_Marking_colour_of 2) (F_law_held : FnG P w K mg base G 3 "_law_held" f_law_held 2) : FnOk P w K mg base (L2.CX P w) 8 f fd ["_law_script"] (SpM K G f_law 1) :=
  mk_fn F sc_law fun cdv A outer s H E d =>
 (ss_cons (s_set d (d_callB call_abs s_abs B.abs (a_cons (d_call F_law_cell_at d (a_cons (d_var 0) (a_cons d_int a_nil))) a_nil)))
 (ss_cons (s_set d (d_tup (a_cons d_dct (a_cons d_dct (a_cons (d_make M_Memory d (a_cons d_int (a_cons d_int a_nil))) a_nil)))))
 (ss_cons (s_set d (d_call F_fence_of d (a_cons d_str a_nil)))
 (ss_cons (s_set d d_non)
 (ss_cons (s_set d (d_sl (d_var 0) (p_some d_int) (p_some d_int)))
 (ss_cons (s_clr [6, 4, 8, 7, 9] (s_for d (i_rng1 B.range (a_cons (d_callB cr_lenU s_len B.len (a_cons (d_var 5) a_nil)) a_nil)) (g_nm d)
 (ss_cons (s_clr [8] (s_if (t_cmp (op_eqU d) s_eq (d_var 6) (d_bin op_mod s_mod (d_bin op_fdivW s_fdiv (d_var 1) d_int) d_int) (nomark _))
 (ss_cons (s_set d (d_make M_Marking d (a_cons (d_ix (d_var 2) d_int) a_nil)))
 (ss_one (s_clr [8] (s_for d (i_list (d_callB (cr_sortU d) s_sortU B.sorted (a_cons (d_ix (d_var 2) d_int) a_nil))) (g_nm d)
 (ss_one (s_clr [8] (s_expr (d_meth X_Marking_shade g d (d_var 4) (a_cons (d_dget d (d_ix (d_var 2) d_int) (d_var 8)) a_nil)))))))))
 ss_nil))
 (ss_cons (s_set d (d_callT call_dictD s_dict B.dict (a_cons (d_ix (d_var 2) d_int) a_nil)))
 (ss_cons (s_expr (d_call F_law_deed d (a_cons (d_var 2) (a_cons (d_call F_law_cut d (a_cons (d_call F_law_cell_by d (a_cons (d_ix (d_var 5) (d_var 6)) (a_cons (d_cmp (op_eqU d) s_eq (d_bin op_mod s_mod (d_var 1) d_int) d_int (nomark _)) a_nil))) (a_cons (d_lst (a_cons d_int (a_cons d_int (a_cons d_int (a_cons d_int (a_cons d_int a_nil)))))) a_nil))) (a_cons (d_var 3) (a_cons (d_var 4) a_nil))))))
 (ss_one (s_clr [6, 8, 7, 9] (s_clr [9] (s_if (t_cmp op_notN s_isNot (d_var 4) d_non (nomark _))
 (ss_cons (s_clr [9] (s_lock (mOp2 getI (mVar 2) (mC (.int 0))) (s_for d (i_keys (d_ix (d_var 2) d_int)) (g_nm d)
 (ss_one (s_clr [9] (s_if (PW.pt (t_and (t_dnin d (d_var 9) (d_var 7)) (t_and1 (t_cmp (op_neU d) s_ne (d_meth X_Marking_colour_of g d (d_var 4) (a_cons (d_var 9) a_nil)) d_str (nomark _)))))
 (ss_one (s_ret d_bl))
 ss_nil))))))
 (ss_one (s_if (t_not (t_val (d_call F_law_held d (a_cons (d_var 2) (a_cons (d_var 4) a_nil)))))
 (ss_one (s_ret d_bl))
 ss_nil)))
 ss_nil)))))))))
 (ss_one (s_ret d_bl))))))))
end
def ga (aFence aMarking aMemory aNew aOld aPair aPlain aRooms aThing : Addr) : Ga where
  cl := fun c => match c with
    | .Fence => aFence
    | .Marking => aMarking
    | .Memory => aMemory
    | .New => aNew
    | .Old => aOld
    | .Pair => aPair
    | .Plain => aPlain
    | .Rooms => aRooms
    | .Thing => aThing
    | _ => 0
  has := fun c => match c with
    | .Fence => true
    | .Marking => true
    | .Memory => true
    | .New => true
    | .Old => true
    | .Pair => true
    | .Plain => true
    | .Rooms => true
    | .Thing => true
    | _ => false
  xc := fun c => match c with
    | _ => 0
theorem all_mk {l : PySem.W.OpenLaw} {w : World} {K : PySem.W.Frag} {h : Heap} {mg : Str → Option Value} {fa C_Fence C_Marking C_Memory C_New C_Old C_Pair C_Plain C_Rooms C_Thing x_law_cell_at x_law_cell_by x_law_cut x_law_brought x_law_give x_header x_words_cell x_Pair_sort_of x_Plain_sort_of x_Plain_words x_Thing_fields x_Thing_sort_of x_Thing_words x_laid x_Rooms_fill_in x_Rooms_gap_in x_Rooms_gap x_Memory_put_in x_law_made x_Thing_init x_pair x_Plain_init x_plain x_weak x_law_new x_is_marked x_Rooms_read x_Memory_marked_at x_has_words x_kind_in x_size_in x_with_mark x_Rooms_write x_Memory_set_mark x_Marking_shade x_Memory_sort_at x_Memory_first_field x_Memory_set_field x_is_thing x_named_by x_New_put_shades x_Old_put_shades x_law_put x_Fence_marks_new x_Fence_shades_look x_Marking_grey x_made_of x_Memory_size_at x_Memory_thing_at x_Plain_holds x_Thing_holds x_Marking_step x_Old_marks_new x_Old_shades_look x_law_deed x_law_closing x_law_held x_fence_of x_Marking_colour_of x_Marking_init x_Rooms_init x_Memory_init x_law : Addr} {K_NOTHING K_SORTS : Addr} {nn_NOTHING nn_SORTS : Nat} {slk_NOTHING slk_SORTS : Array (Option Value)} {tk_NOTHING_0 tk_SORTS_0 tk_SORTS_1 tk_SORTS_2 : Tok} (X : K.In h) (Gn : h.Ns mainGlobals mg) (hfa : mg "law" = some (.ref fa))
    {od_law_cell_at an_law_cell_at od_law_cell_by an_law_cell_by od_law_cut an_law_cut od_law_brought an_law_brought od_law_give an_law_give od_header an_header od_words_cell an_words_cell od_Pair_sort_of an_Pair_sort_of od_Plain_sort_of an_Plain_sort_of od_Plain_words an_Plain_words od_Thing_fields an_Thing_fields od_Thing_sort_of an_Thing_sort_of od_Thing_words an_Thing_words od_laid an_laid od_Rooms_fill_in an_Rooms_fill_in od_Rooms_gap_in an_Rooms_gap_in od_Rooms_gap an_Rooms_gap od_Memory_put_in an_Memory_put_in od_law_made an_law_made od_Thing_init an_Thing_init od_pair an_pair od_Plain_init an_Plain_init od_plain an_plain od_weak an_weak od_law_new an_law_new od_is_marked an_is_marked od_Rooms_read an_Rooms_read od_Memory_marked_at an_Memory_marked_at od_has_words an_has_words od_kind_in an_kind_in od_size_in an_size_in od_with_mark an_with_mark od_Rooms_write an_Rooms_write od_Memory_set_mark an_Memory_set_mark od_Marking_shade an_Marking_shade od_Memory_sort_at an_Memory_sort_at od_Memory_first_field an_Memory_first_field od_Memory_set_field an_Memory_set_field od_is_thing an_is_thing od_named_by an_named_by od_New_put_shades an_New_put_shades od_Old_put_shades an_Old_put_shades od_law_put an_law_put od_Fence_marks_new an_Fence_marks_new od_Fence_shades_look an_Fence_shades_look od_Marking_grey an_Marking_grey od_made_of an_made_of od_Memory_size_at an_Memory_size_at od_Memory_thing_at an_Memory_thing_at od_Plain_holds an_Plain_holds od_Thing_holds an_Thing_holds od_Marking_step an_Marking_step od_Old_marks_new an_Old_marks_new od_Old_shades_look an_Old_shades_look od_law_deed an_law_deed od_law_closing an_law_closing od_law_held an_law_held od_fence_of an_fence_of od_Marking_colour_of an_Marking_colour_of od_Marking_init an_Marking_init od_Rooms_init an_Rooms_init od_Memory_init an_Memory_init od_law an_law : Option Addr} {sl_law_cell_at sl_law_cell_by sl_law_cut sl_law_brought sl_law_give sl_header sl_words_cell sl_Pair_sort_of sl_Plain_sort_of sl_Plain_words sl_Thing_fields sl_Thing_sort_of sl_Thing_words sl_laid sl_Rooms_fill_in sl_Rooms_gap_in sl_Rooms_gap sl_Memory_put_in sl_law_made sl_Thing_init sl_pair sl_Plain_init sl_plain sl_weak sl_law_new sl_is_marked sl_Rooms_read sl_Memory_marked_at sl_has_words sl_kind_in sl_size_in sl_with_mark sl_Rooms_write sl_Memory_set_mark sl_Marking_shade sl_Memory_sort_at sl_Memory_first_field sl_Memory_set_field sl_is_thing sl_named_by sl_New_put_shades sl_Old_put_shades sl_law_put sl_Fence_marks_new sl_Fence_shades_look sl_Marking_grey sl_made_of sl_Memory_size_at sl_Memory_thing_at sl_Plain_holds sl_Thing_holds sl_Marking_step sl_Old_marks_new sl_Old_shades_look sl_law_deed sl_law_closing sl_law_held sl_fence_of sl_Marking_colour_of sl_Marking_init sl_Rooms_init sl_Memory_init sl_law : Array (Option Value)} {oc_law_cell_at kV_law_cell_at dc_law_cell_at pm_law_cell_at cd_law_cell_at ct_law_cell_at oc_law_cell_by kV_law_cell_by dc_law_cell_by pm_law_cell_by cd_law_cell_by ct_law_cell_by oc_law_cut kV_law_cut dc_law_cut pm_law_cut cd_law_cut ct_law_cut oc_law_brought kV_law_brought dc_law_brought pm_law_brought cd_law_brought ct_law_brought oc_law_give kV_law_give dc_law_give pm_law_give cd_law_give ct_law_give oc_header kV_header dc_header pm_header cd_header ct_header oc_words_cell kV_words_cell dc_words_cell pm_words_cell cd_words_cell ct_words_cell oc_Pair_sort_of kV_Pair_sort_of dc_Pair_sort_of pm_Pair_sort_of cd_Pair_sort_of ct_Pair_sort_of oc_Plain_sort_of kV_Plain_sort_of dc_Plain_sort_of pm_Plain_sort_of cd_Plain_sort_of ct_Plain_sort_of oc_Plain_words kV_Plain_words dc_Plain_words pm_Plain_words cd_Plain_words ct_Plain_words oc_Thing_fields kV_Thing_fields dc_Thing_fields pm_Thing_fields cd_Thing_fields ct_Thing_fields oc_Thing_sort_of kV_Thing_sort_of dc_Thing_sort_of pm_Thing_sort_of cd_Thing_sort_of ct_Thing_sort_of oc_Thing_words kV_Thing_words dc_Thing_words pm_Thing_words cd_Thing_words ct_Thing_words oc_laid kV_laid dc_laid pm_laid cd_laid ct_laid oc_Rooms_fill_in kV_Rooms_fill_in dc_Rooms_fill_in pm_Rooms_fill_in cd_Rooms_fill_in ct_Rooms_fill_in oc_Rooms_gap_in kV_Rooms_gap_in dc_Rooms_gap_in pm_Rooms_gap_in cd_Rooms_gap_in ct_Rooms_gap_in oc_Rooms_gap kV_Rooms_gap dc_Rooms_gap pm_Rooms_gap cd_Rooms_gap ct_Rooms_gap oc_Memory_put_in kV_Memory_put_in dc_Memory_put_in pm_Memory_put_in cd_Memory_put_in ct_Memory_put_in oc_law_made kV_law_made dc_law_made pm_law_made cd_law_made ct_law_made oc_Thing_init kV_Thing_init dc_Thing_init pm_Thing_init cd_Thing_init ct_Thing_init oc_pair kV_pair dc_pair pm_pair cd_pair ct_pair oc_Plain_init kV_Plain_init dc_Plain_init pm_Plain_init cd_Plain_init ct_Plain_init oc_plain kV_plain dc_plain pm_plain cd_plain ct_plain oc_weak kV_weak dc_weak pm_weak cd_weak ct_weak oc_law_new kV_law_new dc_law_new pm_law_new cd_law_new ct_law_new oc_is_marked kV_is_marked dc_is_marked pm_is_marked cd_is_marked ct_is_marked oc_Rooms_read kV_Rooms_read dc_Rooms_read pm_Rooms_read cd_Rooms_read ct_Rooms_read oc_Memory_marked_at kV_Memory_marked_at dc_Memory_marked_at pm_Memory_marked_at cd_Memory_marked_at ct_Memory_marked_at oc_has_words kV_has_words dc_has_words pm_has_words cd_has_words ct_has_words oc_kind_in kV_kind_in dc_kind_in pm_kind_in cd_kind_in ct_kind_in oc_size_in kV_size_in dc_size_in pm_size_in cd_size_in ct_size_in oc_with_mark kV_with_mark dc_with_mark pm_with_mark cd_with_mark ct_with_mark oc_Rooms_write kV_Rooms_write dc_Rooms_write pm_Rooms_write cd_Rooms_write ct_Rooms_write oc_Memory_set_mark kV_Memory_set_mark dc_Memory_set_mark pm_Memory_set_mark cd_Memory_set_mark ct_Memory_set_mark oc_Marking_shade kV_Marking_shade dc_Marking_shade pm_Marking_shade cd_Marking_shade ct_Marking_shade oc_Memory_sort_at kV_Memory_sort_at dc_Memory_sort_at pm_Memory_sort_at cd_Memory_sort_at ct_Memory_sort_at oc_Memory_first_field kV_Memory_first_field dc_Memory_first_field pm_Memory_first_field cd_Memory_first_field ct_Memory_first_field oc_Memory_set_field kV_Memory_set_field dc_Memory_set_field pm_Memory_set_field cd_Memory_set_field ct_Memory_set_field oc_is_thing kV_is_thing dc_is_thing pm_is_thing cd_is_thing ct_is_thing oc_named_by kV_named_by dc_named_by pm_named_by cd_named_by ct_named_by oc_New_put_shades kV_New_put_shades dc_New_put_shades pm_New_put_shades cd_New_put_shades ct_New_put_shades oc_Old_put_shades kV_Old_put_shades dc_Old_put_shades pm_Old_put_shades cd_Old_put_shades ct_Old_put_shades oc_law_put kV_law_put dc_law_put pm_law_put cd_law_put ct_law_put oc_Fence_marks_new kV_Fence_marks_new dc_Fence_marks_new pm_Fence_marks_new cd_Fence_marks_new ct_Fence_marks_new oc_Fence_shades_look kV_Fence_shades_look dc_Fence_shades_look pm_Fence_shades_look cd_Fence_shades_look ct_Fence_shades_look oc_Marking_grey kV_Marking_grey dc_Marking_grey pm_Marking_grey cd_Marking_grey ct_Marking_grey oc_made_of kV_made_of dc_made_of pm_made_of cd_made_of ct_made_of oc_Memory_size_at kV_Memory_size_at dc_Memory_size_at pm_Memory_size_at cd_Memory_size_at ct_Memory_size_at oc_Memory_thing_at kV_Memory_thing_at dc_Memory_thing_at pm_Memory_thing_at cd_Memory_thing_at ct_Memory_thing_at oc_Plain_holds kV_Plain_holds dc_Plain_holds pm_Plain_holds cd_Plain_holds ct_Plain_holds oc_Thing_holds kV_Thing_holds dc_Thing_holds pm_Thing_holds cd_Thing_holds ct_Thing_holds oc_Marking_step kV_Marking_step dc_Marking_step pm_Marking_step cd_Marking_step ct_Marking_step oc_Old_marks_new kV_Old_marks_new dc_Old_marks_new pm_Old_marks_new cd_Old_marks_new ct_Old_marks_new oc_Old_shades_look kV_Old_shades_look dc_Old_shades_look pm_Old_shades_look cd_Old_shades_look ct_Old_shades_look oc_law_deed kV_law_deed dc_law_deed pm_law_deed cd_law_deed ct_law_deed oc_law_closing kV_law_closing dc_law_closing pm_law_closing cd_law_closing ct_law_closing oc_law_held kV_law_held dc_law_held pm_law_held cd_law_held ct_law_held oc_fence_of kV_fence_of dc_fence_of pm_fence_of cd_fence_of ct_fence_of oc_Marking_colour_of kV_Marking_colour_of dc_Marking_colour_of pm_Marking_colour_of cd_Marking_colour_of ct_Marking_colour_of oc_Marking_init kV_Marking_init dc_Marking_init pm_Marking_init cd_Marking_init ct_Marking_init oc_Rooms_init kV_Rooms_init dc_Rooms_init pm_Rooms_init cd_Rooms_init ct_Rooms_init oc_Memory_init kV_Memory_init dc_Memory_init pm_Memory_init cd_Memory_init ct_Memory_init oc_law kV_law dc_law pm_law cd_law ct_law : Value}
    (aC_Fence : PySem.W.nsIn K mainGlobals "Fence" = some (some (.ref C_Fence)))
    (pg_Fence : PySem.W.plainGet K C_Fence Str.empty = true)
    (hd_Fence : PySem.W.hasDictIn K C_Fence = true)
    (po_Fence : PySem.W.plainOver K C_Fence = true)
    (sa_Fence : PySem.W.findIn K (.ref C_Fence) "__setattr__" = some (some (.builtin "object.__setattr__")))
    (mk_Fence : PySem.W.makesIn K C_Fence = true)
    (kc_Fence : PySem.W.keepIn K (.ref C_Fence) = true)
    (aC_Marking : PySem.W.nsIn K mainGlobals "Marking" = some (some (.ref C_Marking)))
    (pg_Marking : PySem.W.plainGet K C_Marking Str.empty = true)
    (hd_Marking : PySem.W.hasDictIn K C_Marking = true)
    (po_Marking : PySem.W.plainOver K C_Marking = true)
    (sa_Marking : PySem.W.findIn K (.ref C_Marking) "__setattr__" = some (some (.builtin "object.__setattr__")))
    (mk_Marking : PySem.W.makesIn K C_Marking = true)
    (kc_Marking : PySem.W.keepIn K (.ref C_Marking) = true)
    (n_Marking_memory : PySem.W.findIn K (.ref C_Marking) "memory" = some none)
    (n_Marking_line : PySem.W.findIn K (.ref C_Marking) "line" = some none)
    (aC_Memory : PySem.W.nsIn K mainGlobals "Memory" = some (some (.ref C_Memory)))
    (pg_Memory : PySem.W.plainGet K C_Memory Str.empty = true)
    (hd_Memory : PySem.W.hasDictIn K C_Memory = true)
    (po_Memory : PySem.W.plainOver K C_Memory = true)
    (sa_Memory : PySem.W.findIn K (.ref C_Memory) "__setattr__" = some (some (.builtin "object.__setattr__")))
    (mk_Memory : PySem.W.makesIn K C_Memory = true)
    (kc_Memory : PySem.W.keepIn K (.ref C_Memory) = true)
    (n_Memory_rooms : PySem.W.findIn K (.ref C_Memory) "rooms" = some none)
    (aC_New : PySem.W.nsIn K mainGlobals "New" = some (some (.ref C_New)))
    (pg_New : PySem.W.plainGet K C_New Str.empty = true)
    (hd_New : PySem.W.hasDictIn K C_New = true)
    (po_New : PySem.W.plainOver K C_New = true)
    (sa_New : PySem.W.findIn K (.ref C_New) "__setattr__" = some (some (.builtin "object.__setattr__")))
    (mk_New : PySem.W.makesIn K C_New = true)
    (kc_New : PySem.W.keepIn K (.ref C_New) = true)
    (aC_Old : PySem.W.nsIn K mainGlobals "Old" = some (some (.ref C_Old)))
    (pg_Old : PySem.W.plainGet K C_Old Str.empty = true)
    (hd_Old : PySem.W.hasDictIn K C_Old = true)
    (po_Old : PySem.W.plainOver K C_Old = true)
    (sa_Old : PySem.W.findIn K (.ref C_Old) "__setattr__" = some (some (.builtin "object.__setattr__")))
    (mk_Old : PySem.W.makesIn K C_Old = true)
    (kc_Old : PySem.W.keepIn K (.ref C_Old) = true)
    (aC_Pair : PySem.W.nsIn K mainGlobals "Pair" = some (some (.ref C_Pair)))
    (pg_Pair : PySem.W.plainGet K C_Pair Str.empty = true)
    (hd_Pair : PySem.W.hasDictIn K C_Pair = true)
    (po_Pair : PySem.W.plainOver K C_Pair = true)
    (sa_Pair : PySem.W.findIn K (.ref C_Pair) "__setattr__" = some (some (.builtin "object.__setattr__")))
    (mk_Pair : PySem.W.makesIn K C_Pair = true)
    (kc_Pair : PySem.W.keepIn K (.ref C_Pair) = true)
    (n_Pair_row : PySem.W.findIn K (.ref C_Pair) "row" = some none)
    (aC_Plain : PySem.W.nsIn K mainGlobals "Plain" = some (some (.ref C_Plain)))
    (pg_Plain : PySem.W.plainGet K C_Plain Str.empty = true)
    (hd_Plain : PySem.W.hasDictIn K C_Plain = true)
    (po_Plain : PySem.W.plainOver K C_Plain = true)
    (sa_Plain : PySem.W.findIn K (.ref C_Plain) "__setattr__" = some (some (.builtin "object.__setattr__")))
    (mk_Plain : PySem.W.makesIn K C_Plain = true)
    (kc_Plain : PySem.W.keepIn K (.ref C_Plain) = true)
    (n_Plain_row : PySem.W.findIn K (.ref C_Plain) "row" = some none)
    (n_Plain_last_words : PySem.W.findIn K (.ref C_Plain) "last_words" = some none)
    (aC_Rooms : PySem.W.nsIn K mainGlobals "Rooms" = some (some (.ref C_Rooms)))
    (pg_Rooms : PySem.W.plainGet K C_Rooms Str.empty = true)
    (hd_Rooms : PySem.W.hasDictIn K C_Rooms = true)
    (po_Rooms : PySem.W.plainOver K C_Rooms = true)
    (sa_Rooms : PySem.W.findIn K (.ref C_Rooms) "__setattr__" = some (some (.builtin "object.__setattr__")))
    (mk_Rooms : PySem.W.makesIn K C_Rooms = true)
    (kc_Rooms : PySem.W.keepIn K (.ref C_Rooms) = true)
    (n_Rooms_many : PySem.W.findIn K (.ref C_Rooms) "many" = some none)
    (n_Rooms_cells : PySem.W.findIn K (.ref C_Rooms) "cells" = some none)
    (n_Rooms_inside : PySem.W.findIn K (.ref C_Rooms) "inside" = some none)
    (aC_Thing : PySem.W.nsIn K mainGlobals "Thing" = some (some (.ref C_Thing)))
    (pg_Thing : PySem.W.plainGet K C_Thing Str.empty = true)
    (hd_Thing : PySem.W.hasDictIn K C_Thing = true)
    (po_Thing : PySem.W.plainOver K C_Thing = true)
    (sa_Thing : PySem.W.findIn K (.ref C_Thing) "__setattr__" = some (some (.builtin "object.__setattr__")))
    (mk_Thing : PySem.W.makesIn K C_Thing = true)
    (kc_Thing : PySem.W.keepIn K (.ref C_Thing) = true)
    (n_Thing_row : PySem.W.findIn K (.ref C_Thing) "row" = some none)
    (g_law_cell_at : PySem.W.nsIn K mainGlobals "_law_cell_at" = some (some (.ref x_law_cell_at)))
    (l_law_cell_at : K.lookup x_law_cell_at = some ⟨oc_law_cell_at, od_law_cell_at, .func (PySem.W.fnOf "_law_cell_at" "_law_cell_at" (defArgs st_law_cell_at) (defBody st_law_cell_at) (defScope st_law_cell_at) .none kV_law_cell_at dc_law_cell_at pm_law_cell_at an_law_cell_at cd_law_cell_at ct_law_cell_at), sl_law_cell_at⟩)
    (c_law_cell_at' : PySem.W.codeIn K cd_law_cell_at "_law_cell_at" = true)
    (k_law_cell_at : PySem.W.keepIn K (.ref x_law_cell_at) = true)
    (g_law_cell_by : PySem.W.nsIn K mainGlobals "_law_cell_by" = some (some (.ref x_law_cell_by)))
    (l_law_cell_by : K.lookup x_law_cell_by = some ⟨oc_law_cell_by, od_law_cell_by, .func (PySem.W.fnOf "_law_cell_by" "_law_cell_by" (defArgs st_law_cell_by) (defBody st_law_cell_by) (defScope st_law_cell_by) .none kV_law_cell_by dc_law_cell_by pm_law_cell_by an_law_cell_by cd_law_cell_by ct_law_cell_by), sl_law_cell_by⟩)
    (c_law_cell_by' : PySem.W.codeIn K cd_law_cell_by "_law_cell_by" = true)
    (k_law_cell_by : PySem.W.keepIn K (.ref x_law_cell_by) = true)
    (g_law_cut : PySem.W.nsIn K mainGlobals "_law_cut" = some (some (.ref x_law_cut)))
    (l_law_cut : K.lookup x_law_cut = some ⟨oc_law_cut, od_law_cut, .func (PySem.W.fnOf "_law_cut" "_law_cut" (defArgs st_law_cut) (defBody st_law_cut) (defScope st_law_cut) .none kV_law_cut dc_law_cut pm_law_cut an_law_cut cd_law_cut ct_law_cut), sl_law_cut⟩)
    (c_law_cut' : PySem.W.codeIn K cd_law_cut "_law_cut" = true)
    (k_law_cut : PySem.W.keepIn K (.ref x_law_cut) = true)
    (g_law_brought : PySem.W.nsIn K mainGlobals "_law_brought" = some (some (.ref x_law_brought)))
    (l_law_brought : K.lookup x_law_brought = some ⟨oc_law_brought, od_law_brought, .func (PySem.W.fnOf "_law_brought" "_law_brought" (defArgs st_law_brought) (defBody st_law_brought) (defScope st_law_brought) .none kV_law_brought dc_law_brought pm_law_brought an_law_brought cd_law_brought ct_law_brought), sl_law_brought⟩)
    (c_law_brought' : PySem.W.codeIn K cd_law_brought "_law_brought" = true)
    (k_law_brought : PySem.W.keepIn K (.ref x_law_brought) = true)
    (g_law_give : PySem.W.nsIn K mainGlobals "_law_give" = some (some (.ref x_law_give)))
    (l_law_give : K.lookup x_law_give = some ⟨oc_law_give, od_law_give, .func (PySem.W.fnOf "_law_give" "_law_give" (defArgs st_law_give) (defBody st_law_give) (defScope st_law_give) .none kV_law_give dc_law_give pm_law_give an_law_give cd_law_give ct_law_give), sl_law_give⟩)
    (c_law_give' : PySem.W.codeIn K cd_law_give "_law_give" = true)
    (k_law_give : PySem.W.keepIn K (.ref x_law_give) = true)
    (g_header : PySem.W.nsIn K mainGlobals "header" = some (some (.ref x_header)))
    (l_header : K.lookup x_header = some ⟨oc_header, od_header, .func (PySem.W.fnOf "header" "header" (defArgs st_header) (defBody st_header) (defScope st_header) .none kV_header dc_header pm_header an_header cd_header ct_header), sl_header⟩)
    (c_header' : PySem.W.codeIn K cd_header "header" = true)
    (k_header : PySem.W.keepIn K (.ref x_header) = true)
    (g_words_cell : PySem.W.nsIn K mainGlobals "words_cell" = some (some (.ref x_words_cell)))
    (l_words_cell : K.lookup x_words_cell = some ⟨oc_words_cell, od_words_cell, .func (PySem.W.fnOf "words_cell" "words_cell" (defArgs st_words_cell) (defBody st_words_cell) (defScope st_words_cell) .none kV_words_cell dc_words_cell pm_words_cell an_words_cell cd_words_cell ct_words_cell), sl_words_cell⟩)
    (c_words_cell' : PySem.W.codeIn K cd_words_cell "words_cell" = true)
    (k_words_cell : PySem.W.keepIn K (.ref x_words_cell) = true)
    (l_Pair_sort_of : K.lookup x_Pair_sort_of = some ⟨oc_Pair_sort_of, od_Pair_sort_of, .func (PySem.W.fnOf "sort_of" "Pair.sort_of" (defArgs st_Pair_sort_of) (defBody st_Pair_sort_of) (defScope st_Pair_sort_of) .none kV_Pair_sort_of dc_Pair_sort_of pm_Pair_sort_of an_Pair_sort_of cd_Pair_sort_of ct_Pair_sort_of), sl_Pair_sort_of⟩)
    (c_Pair_sort_of' : PySem.W.codeIn K cd_Pair_sort_of "Pair.sort_of" = true)
    (k_Pair_sort_of : PySem.W.keepIn K (.ref x_Pair_sort_of) = true)
    (i_Pair_sort_of : PySem.W.isFn K (.ref x_Pair_sort_of) = true)
    (l_Plain_sort_of : K.lookup x_Plain_sort_of = some ⟨oc_Plain_sort_of, od_Plain_sort_of, .func (PySem.W.fnOf "sort_of" "Plain.sort_of" (defArgs st_Plain_sort_of) (defBody st_Plain_sort_of) (defScope st_Plain_sort_of) .none kV_Plain_sort_of dc_Plain_sort_of pm_Plain_sort_of an_Plain_sort_of cd_Plain_sort_of ct_Plain_sort_of), sl_Plain_sort_of⟩)
    (c_Plain_sort_of' : PySem.W.codeIn K cd_Plain_sort_of "Plain.sort_of" = true)
    (k_Plain_sort_of : PySem.W.keepIn K (.ref x_Plain_sort_of) = true)
    (i_Plain_sort_of : PySem.W.isFn K (.ref x_Plain_sort_of) = true)
    (l_Plain_words : K.lookup x_Plain_words = some ⟨oc_Plain_words, od_Plain_words, .func (PySem.W.fnOf "words" "Plain.words" (defArgs st_Plain_words) (defBody st_Plain_words) (defScope st_Plain_words) .none kV_Plain_words dc_Plain_words pm_Plain_words an_Plain_words cd_Plain_words ct_Plain_words), sl_Plain_words⟩)
    (c_Plain_words' : PySem.W.codeIn K cd_Plain_words "Plain.words" = true)
    (k_Plain_words : PySem.W.keepIn K (.ref x_Plain_words) = true)
    (i_Plain_words : PySem.W.isFn K (.ref x_Plain_words) = true)
    (l_Thing_fields : K.lookup x_Thing_fields = some ⟨oc_Thing_fields, od_Thing_fields, .func (PySem.W.fnOf "fields" "Thing.fields" (defArgs st_Thing_fields) (defBody st_Thing_fields) (defScope st_Thing_fields) .none kV_Thing_fields dc_Thing_fields pm_Thing_fields an_Thing_fields cd_Thing_fields ct_Thing_fields), sl_Thing_fields⟩)
    (c_Thing_fields' : PySem.W.codeIn K cd_Thing_fields "Thing.fields" = true)
    (k_Thing_fields : PySem.W.keepIn K (.ref x_Thing_fields) = true)
    (i_Thing_fields : PySem.W.isFn K (.ref x_Thing_fields) = true)
    (l_Thing_sort_of : K.lookup x_Thing_sort_of = some ⟨oc_Thing_sort_of, od_Thing_sort_of, .func (PySem.W.fnOf "sort_of" "Thing.sort_of" (defArgs st_Thing_sort_of) (defBody st_Thing_sort_of) (defScope st_Thing_sort_of) .none kV_Thing_sort_of dc_Thing_sort_of pm_Thing_sort_of an_Thing_sort_of cd_Thing_sort_of ct_Thing_sort_of), sl_Thing_sort_of⟩)
    (c_Thing_sort_of' : PySem.W.codeIn K cd_Thing_sort_of "Thing.sort_of" = true)
    (k_Thing_sort_of : PySem.W.keepIn K (.ref x_Thing_sort_of) = true)
    (i_Thing_sort_of : PySem.W.isFn K (.ref x_Thing_sort_of) = true)
    (l_Thing_words : K.lookup x_Thing_words = some ⟨oc_Thing_words, od_Thing_words, .func (PySem.W.fnOf "words" "Thing.words" (defArgs st_Thing_words) (defBody st_Thing_words) (defScope st_Thing_words) .none kV_Thing_words dc_Thing_words pm_Thing_words an_Thing_words cd_Thing_words ct_Thing_words), sl_Thing_words⟩)
    (c_Thing_words' : PySem.W.codeIn K cd_Thing_words "Thing.words" = true)
    (k_Thing_words : PySem.W.keepIn K (.ref x_Thing_words) = true)
    (i_Thing_words : PySem.W.isFn K (.ref x_Thing_words) = true)
    (g_laid : PySem.W.nsIn K mainGlobals "laid" = some (some (.ref x_laid)))
    (l_laid : K.lookup x_laid = some ⟨oc_laid, od_laid, .func (PySem.W.fnOf "laid" "laid" (defArgs st_laid) (defBody st_laid) (defScope st_laid) .none kV_laid dc_laid pm_laid an_laid cd_laid ct_laid), sl_laid⟩)
    (c_laid' : PySem.W.codeIn K cd_laid "laid" = true)
    (k_laid : PySem.W.keepIn K (.ref x_laid) = true)
    (l_Rooms_fill_in : K.lookup x_Rooms_fill_in = some ⟨oc_Rooms_fill_in, od_Rooms_fill_in, .func (PySem.W.fnOf "fill_in" "Rooms.fill_in" (defArgs st_Rooms_fill_in) (defBody st_Rooms_fill_in) (defScope st_Rooms_fill_in) .none kV_Rooms_fill_in dc_Rooms_fill_in pm_Rooms_fill_in an_Rooms_fill_in cd_Rooms_fill_in ct_Rooms_fill_in), sl_Rooms_fill_in⟩)
    (c_Rooms_fill_in' : PySem.W.codeIn K cd_Rooms_fill_in "Rooms.fill_in" = true)
    (k_Rooms_fill_in : PySem.W.keepIn K (.ref x_Rooms_fill_in) = true)
    (i_Rooms_fill_in : PySem.W.isFn K (.ref x_Rooms_fill_in) = true)
    (l_Rooms_gap_in : K.lookup x_Rooms_gap_in = some ⟨oc_Rooms_gap_in, od_Rooms_gap_in, .func (PySem.W.fnOf "gap_in" "Rooms.gap_in" (defArgs st_Rooms_gap_in) (defBody st_Rooms_gap_in) (defScope st_Rooms_gap_in) .none kV_Rooms_gap_in dc_Rooms_gap_in pm_Rooms_gap_in an_Rooms_gap_in cd_Rooms_gap_in ct_Rooms_gap_in), sl_Rooms_gap_in⟩)
    (c_Rooms_gap_in' : PySem.W.codeIn K cd_Rooms_gap_in "Rooms.gap_in" = true)
    (k_Rooms_gap_in : PySem.W.keepIn K (.ref x_Rooms_gap_in) = true)
    (i_Rooms_gap_in : PySem.W.isFn K (.ref x_Rooms_gap_in) = true)
    (l_Rooms_gap : K.lookup x_Rooms_gap = some ⟨oc_Rooms_gap, od_Rooms_gap, .func (PySem.W.fnOf "gap" "Rooms.gap" (defArgs st_Rooms_gap) (defBody st_Rooms_gap) (defScope st_Rooms_gap) .none kV_Rooms_gap dc_Rooms_gap pm_Rooms_gap an_Rooms_gap cd_Rooms_gap ct_Rooms_gap), sl_Rooms_gap⟩)
    (c_Rooms_gap' : PySem.W.codeIn K cd_Rooms_gap "Rooms.gap" = true)
    (k_Rooms_gap : PySem.W.keepIn K (.ref x_Rooms_gap) = true)
    (i_Rooms_gap : PySem.W.isFn K (.ref x_Rooms_gap) = true)
    (l_Memory_put_in : K.lookup x_Memory_put_in = some ⟨oc_Memory_put_in, od_Memory_put_in, .func (PySem.W.fnOf "put_in" "Memory.put_in" (defArgs st_Memory_put_in) (defBody st_Memory_put_in) (defScope st_Memory_put_in) .none kV_Memory_put_in dc_Memory_put_in pm_Memory_put_in an_Memory_put_in cd_Memory_put_in ct_Memory_put_in), sl_Memory_put_in⟩)
    (c_Memory_put_in' : PySem.W.codeIn K cd_Memory_put_in "Memory.put_in" = true)
    (k_Memory_put_in : PySem.W.keepIn K (.ref x_Memory_put_in) = true)
    (i_Memory_put_in : PySem.W.isFn K (.ref x_Memory_put_in) = true)
    (g_law_made : PySem.W.nsIn K mainGlobals "_law_made" = some (some (.ref x_law_made)))
    (l_law_made : K.lookup x_law_made = some ⟨oc_law_made, od_law_made, .func (PySem.W.fnOf "_law_made" "_law_made" (defArgs st_law_made) (defBody st_law_made) (defScope st_law_made) .none kV_law_made dc_law_made pm_law_made an_law_made cd_law_made ct_law_made), sl_law_made⟩)
    (c_law_made' : PySem.W.codeIn K cd_law_made "_law_made" = true)
    (k_law_made : PySem.W.keepIn K (.ref x_law_made) = true)
    (l_Thing_init : K.lookup x_Thing_init = some ⟨oc_Thing_init, od_Thing_init, .func (PySem.W.fnOf "__init__" "Thing.__init__" (defArgs st_Thing_init) (defBody st_Thing_init) (defScope st_Thing_init) .none kV_Thing_init dc_Thing_init pm_Thing_init an_Thing_init cd_Thing_init ct_Thing_init), sl_Thing_init⟩)
    (c_Thing_init' : PySem.W.codeIn K cd_Thing_init "Thing.__init__" = true)
    (k_Thing_init : PySem.W.keepIn K (.ref x_Thing_init) = true)
    (i_Thing_init : PySem.W.isFn K (.ref x_Thing_init) = true)
    (g_pair : PySem.W.nsIn K mainGlobals "pair" = some (some (.ref x_pair)))
    (l_pair : K.lookup x_pair = some ⟨oc_pair, od_pair, .func (PySem.W.fnOf "pair" "pair" (defArgs st_pair) (defBody st_pair) (defScope st_pair) .none kV_pair dc_pair pm_pair an_pair cd_pair ct_pair), sl_pair⟩)
    (c_pair' : PySem.W.codeIn K cd_pair "pair" = true)
    (k_pair : PySem.W.keepIn K (.ref x_pair) = true)
    (l_Plain_init : K.lookup x_Plain_init = some ⟨oc_Plain_init, od_Plain_init, .func (PySem.W.fnOf "__init__" "Plain.__init__" (defArgs st_Plain_init) (defBody st_Plain_init) (defScope st_Plain_init) .none kV_Plain_init dc_Plain_init pm_Plain_init an_Plain_init cd_Plain_init ct_Plain_init), sl_Plain_init⟩)
    (c_Plain_init' : PySem.W.codeIn K cd_Plain_init "Plain.__init__" = true)
    (k_Plain_init : PySem.W.keepIn K (.ref x_Plain_init) = true)
    (i_Plain_init : PySem.W.isFn K (.ref x_Plain_init) = true)
    (g_plain : PySem.W.nsIn K mainGlobals "plain" = some (some (.ref x_plain)))
    (l_plain : K.lookup x_plain = some ⟨oc_plain, od_plain, .func (PySem.W.fnOf "plain" "plain" (defArgs st_plain) (defBody st_plain) (defScope st_plain) .none kV_plain dc_plain pm_plain an_plain cd_plain ct_plain), sl_plain⟩)
    (c_plain' : PySem.W.codeIn K cd_plain "plain" = true)
    (k_plain : PySem.W.keepIn K (.ref x_plain) = true)
    (g_weak : PySem.W.nsIn K mainGlobals "weak" = some (some (.ref x_weak)))
    (l_weak : K.lookup x_weak = some ⟨oc_weak, od_weak, .func (PySem.W.fnOf "weak" "weak" (defArgs st_weak) (defBody st_weak) (defScope st_weak) .none kV_weak dc_weak pm_weak an_weak cd_weak ct_weak), sl_weak⟩)
    (c_weak' : PySem.W.codeIn K cd_weak "weak" = true)
    (k_weak : PySem.W.keepIn K (.ref x_weak) = true)
    (g_law_new : PySem.W.nsIn K mainGlobals "_law_new" = some (some (.ref x_law_new)))
    (l_law_new : K.lookup x_law_new = some ⟨oc_law_new, od_law_new, .func (PySem.W.fnOf "_law_new" "_law_new" (defArgs st_law_new) (defBody st_law_new) (defScope st_law_new) .none kV_law_new dc_law_new pm_law_new an_law_new cd_law_new ct_law_new), sl_law_new⟩)
    (c_law_new' : PySem.W.codeIn K cd_law_new "_law_new" = true)
    (k_law_new : PySem.W.keepIn K (.ref x_law_new) = true)
    (g_is_marked : PySem.W.nsIn K mainGlobals "is_marked" = some (some (.ref x_is_marked)))
    (l_is_marked : K.lookup x_is_marked = some ⟨oc_is_marked, od_is_marked, .func (PySem.W.fnOf "is_marked" "is_marked" (defArgs st_is_marked) (defBody st_is_marked) (defScope st_is_marked) .none kV_is_marked dc_is_marked pm_is_marked an_is_marked cd_is_marked ct_is_marked), sl_is_marked⟩)
    (c_is_marked' : PySem.W.codeIn K cd_is_marked "is_marked" = true)
    (k_is_marked : PySem.W.keepIn K (.ref x_is_marked) = true)
    (l_Rooms_read : K.lookup x_Rooms_read = some ⟨oc_Rooms_read, od_Rooms_read, .func (PySem.W.fnOf "read" "Rooms.read" (defArgs st_Rooms_read) (defBody st_Rooms_read) (defScope st_Rooms_read) .none kV_Rooms_read dc_Rooms_read pm_Rooms_read an_Rooms_read cd_Rooms_read ct_Rooms_read), sl_Rooms_read⟩)
    (c_Rooms_read' : PySem.W.codeIn K cd_Rooms_read "Rooms.read" = true)
    (k_Rooms_read : PySem.W.keepIn K (.ref x_Rooms_read) = true)
    (i_Rooms_read : PySem.W.isFn K (.ref x_Rooms_read) = true)
    (l_Memory_marked_at : K.lookup x_Memory_marked_at = some ⟨oc_Memory_marked_at, od_Memory_marked_at, .func (PySem.W.fnOf "marked_at" "Memory.marked_at" (defArgs st_Memory_marked_at) (defBody st_Memory_marked_at) (defScope st_Memory_marked_at) .none kV_Memory_marked_at dc_Memory_marked_at pm_Memory_marked_at an_Memory_marked_at cd_Memory_marked_at ct_Memory_marked_at), sl_Memory_marked_at⟩)
    (c_Memory_marked_at' : PySem.W.codeIn K cd_Memory_marked_at "Memory.marked_at" = true)
    (k_Memory_marked_at : PySem.W.keepIn K (.ref x_Memory_marked_at) = true)
    (i_Memory_marked_at : PySem.W.isFn K (.ref x_Memory_marked_at) = true)
    (g_has_words : PySem.W.nsIn K mainGlobals "has_words" = some (some (.ref x_has_words)))
    (l_has_words : K.lookup x_has_words = some ⟨oc_has_words, od_has_words, .func (PySem.W.fnOf "has_words" "has_words" (defArgs st_has_words) (defBody st_has_words) (defScope st_has_words) .none kV_has_words dc_has_words pm_has_words an_has_words cd_has_words ct_has_words), sl_has_words⟩)
    (c_has_words' : PySem.W.codeIn K cd_has_words "has_words" = true)
    (k_has_words : PySem.W.keepIn K (.ref x_has_words) = true)
    (g_kind_in : PySem.W.nsIn K mainGlobals "kind_in" = some (some (.ref x_kind_in)))
    (l_kind_in : K.lookup x_kind_in = some ⟨oc_kind_in, od_kind_in, .func (PySem.W.fnOf "kind_in" "kind_in" (defArgs st_kind_in) (defBody st_kind_in) (defScope st_kind_in) .none kV_kind_in dc_kind_in pm_kind_in an_kind_in cd_kind_in ct_kind_in), sl_kind_in⟩)
    (c_kind_in' : PySem.W.codeIn K cd_kind_in "kind_in" = true)
    (k_kind_in : PySem.W.keepIn K (.ref x_kind_in) = true)
    (g_size_in : PySem.W.nsIn K mainGlobals "size_in" = some (some (.ref x_size_in)))
    (l_size_in : K.lookup x_size_in = some ⟨oc_size_in, od_size_in, .func (PySem.W.fnOf "size_in" "size_in" (defArgs st_size_in) (defBody st_size_in) (defScope st_size_in) .none kV_size_in dc_size_in pm_size_in an_size_in cd_size_in ct_size_in), sl_size_in⟩)
    (c_size_in' : PySem.W.codeIn K cd_size_in "size_in" = true)
    (k_size_in : PySem.W.keepIn K (.ref x_size_in) = true)
    (g_with_mark : PySem.W.nsIn K mainGlobals "with_mark" = some (some (.ref x_with_mark)))
    (l_with_mark : K.lookup x_with_mark = some ⟨oc_with_mark, od_with_mark, .func (PySem.W.fnOf "with_mark" "with_mark" (defArgs st_with_mark) (defBody st_with_mark) (defScope st_with_mark) .none kV_with_mark dc_with_mark pm_with_mark an_with_mark cd_with_mark ct_with_mark), sl_with_mark⟩)
    (c_with_mark' : PySem.W.codeIn K cd_with_mark "with_mark" = true)
    (k_with_mark : PySem.W.keepIn K (.ref x_with_mark) = true)
    (l_Rooms_write : K.lookup x_Rooms_write = some ⟨oc_Rooms_write, od_Rooms_write, .func (PySem.W.fnOf "write" "Rooms.write" (defArgs st_Rooms_write) (defBody st_Rooms_write) (defScope st_Rooms_write) .none kV_Rooms_write dc_Rooms_write pm_Rooms_write an_Rooms_write cd_Rooms_write ct_Rooms_write), sl_Rooms_write⟩)
    (c_Rooms_write' : PySem.W.codeIn K cd_Rooms_write "Rooms.write" = true)
    (k_Rooms_write : PySem.W.keepIn K (.ref x_Rooms_write) = true)
    (i_Rooms_write : PySem.W.isFn K (.ref x_Rooms_write) = true)
    (l_Memory_set_mark : K.lookup x_Memory_set_mark = some ⟨oc_Memory_set_mark, od_Memory_set_mark, .func (PySem.W.fnOf "set_mark" "Memory.set_mark" (defArgs st_Memory_set_mark) (defBody st_Memory_set_mark) (defScope st_Memory_set_mark) .none kV_Memory_set_mark dc_Memory_set_mark pm_Memory_set_mark an_Memory_set_mark cd_Memory_set_mark ct_Memory_set_mark), sl_Memory_set_mark⟩)
    (c_Memory_set_mark' : PySem.W.codeIn K cd_Memory_set_mark "Memory.set_mark" = true)
    (k_Memory_set_mark : PySem.W.keepIn K (.ref x_Memory_set_mark) = true)
    (i_Memory_set_mark : PySem.W.isFn K (.ref x_Memory_set_mark) = true)
    (l_Marking_shade : K.lookup x_Marking_shade = some ⟨oc_Marking_shade, od_Marking_shade, .func (PySem.W.fnOf "shade" "Marking.shade" (defArgs st_Marking_shade) (defBody st_Marking_shade) (defScope st_Marking_shade) .none kV_Marking_shade dc_Marking_shade pm_Marking_shade an_Marking_shade cd_Marking_shade ct_Marking_shade), sl_Marking_shade⟩)
    (c_Marking_shade' : PySem.W.codeIn K cd_Marking_shade "Marking.shade" = true)
    (k_Marking_shade : PySem.W.keepIn K (.ref x_Marking_shade) = true)
    (i_Marking_shade : PySem.W.isFn K (.ref x_Marking_shade) = true)
    (l_Memory_sort_at : K.lookup x_Memory_sort_at = some ⟨oc_Memory_sort_at, od_Memory_sort_at, .func (PySem.W.fnOf "sort_at" "Memory.sort_at" (defArgs st_Memory_sort_at) (defBody st_Memory_sort_at) (defScope st_Memory_sort_at) .none kV_Memory_sort_at dc_Memory_sort_at pm_Memory_sort_at an_Memory_sort_at cd_Memory_sort_at ct_Memory_sort_at), sl_Memory_sort_at⟩)
    (c_Memory_sort_at' : PySem.W.codeIn K cd_Memory_sort_at "Memory.sort_at" = true)
    (k_Memory_sort_at : PySem.W.keepIn K (.ref x_Memory_sort_at) = true)
    (i_Memory_sort_at : PySem.W.isFn K (.ref x_Memory_sort_at) = true)
    (l_Memory_first_field : K.lookup x_Memory_first_field = some ⟨oc_Memory_first_field, od_Memory_first_field, .func (PySem.W.fnOf "first_field" "Memory.first_field" (defArgs st_Memory_first_field) (defBody st_Memory_first_field) (defScope st_Memory_first_field) .none kV_Memory_first_field dc_Memory_first_field pm_Memory_first_field an_Memory_first_field cd_Memory_first_field ct_Memory_first_field), sl_Memory_first_field⟩)
    (c_Memory_first_field' : PySem.W.codeIn K cd_Memory_first_field "Memory.first_field" = true)
    (k_Memory_first_field : PySem.W.keepIn K (.ref x_Memory_first_field) = true)
    (i_Memory_first_field : PySem.W.isFn K (.ref x_Memory_first_field) = true)
    (l_Memory_set_field : K.lookup x_Memory_set_field = some ⟨oc_Memory_set_field, od_Memory_set_field, .func (PySem.W.fnOf "set_field" "Memory.set_field" (defArgs st_Memory_set_field) (defBody st_Memory_set_field) (defScope st_Memory_set_field) .none kV_Memory_set_field dc_Memory_set_field pm_Memory_set_field an_Memory_set_field cd_Memory_set_field ct_Memory_set_field), sl_Memory_set_field⟩)
    (c_Memory_set_field' : PySem.W.codeIn K cd_Memory_set_field "Memory.set_field" = true)
    (k_Memory_set_field : PySem.W.keepIn K (.ref x_Memory_set_field) = true)
    (i_Memory_set_field : PySem.W.isFn K (.ref x_Memory_set_field) = true)
    (g_is_thing : PySem.W.nsIn K mainGlobals "is_thing" = some (some (.ref x_is_thing)))
    (l_is_thing : K.lookup x_is_thing = some ⟨oc_is_thing, od_is_thing, .func (PySem.W.fnOf "is_thing" "is_thing" (defArgs st_is_thing) (defBody st_is_thing) (defScope st_is_thing) .none kV_is_thing dc_is_thing pm_is_thing an_is_thing cd_is_thing ct_is_thing), sl_is_thing⟩)
    (c_is_thing' : PySem.W.codeIn K cd_is_thing "is_thing" = true)
    (k_is_thing : PySem.W.keepIn K (.ref x_is_thing) = true)
    (g_named_by : PySem.W.nsIn K mainGlobals "named_by" = some (some (.ref x_named_by)))
    (l_named_by : K.lookup x_named_by = some ⟨oc_named_by, od_named_by, .func (PySem.W.fnOf "named_by" "named_by" (defArgs st_named_by) (defBody st_named_by) (defScope st_named_by) .none kV_named_by dc_named_by pm_named_by an_named_by cd_named_by ct_named_by), sl_named_by⟩)
    (c_named_by' : PySem.W.codeIn K cd_named_by "named_by" = true)
    (k_named_by : PySem.W.keepIn K (.ref x_named_by) = true)
    (l_New_put_shades : K.lookup x_New_put_shades = some ⟨oc_New_put_shades, od_New_put_shades, .func (PySem.W.fnOf "put_shades" "New.put_shades" (defArgs st_New_put_shades) (defBody st_New_put_shades) (defScope st_New_put_shades) .none kV_New_put_shades dc_New_put_shades pm_New_put_shades an_New_put_shades cd_New_put_shades ct_New_put_shades), sl_New_put_shades⟩)
    (c_New_put_shades' : PySem.W.codeIn K cd_New_put_shades "New.put_shades" = true)
    (k_New_put_shades : PySem.W.keepIn K (.ref x_New_put_shades) = true)
    (i_New_put_shades : PySem.W.isFn K (.ref x_New_put_shades) = true)
    (l_Old_put_shades : K.lookup x_Old_put_shades = some ⟨oc_Old_put_shades, od_Old_put_shades, .func (PySem.W.fnOf "put_shades" "Old.put_shades" (defArgs st_Old_put_shades) (defBody st_Old_put_shades) (defScope st_Old_put_shades) .none kV_Old_put_shades dc_Old_put_shades pm_Old_put_shades an_Old_put_shades cd_Old_put_shades ct_Old_put_shades), sl_Old_put_shades⟩)
    (c_Old_put_shades' : PySem.W.codeIn K cd_Old_put_shades "Old.put_shades" = true)
    (k_Old_put_shades : PySem.W.keepIn K (.ref x_Old_put_shades) = true)
    (i_Old_put_shades : PySem.W.isFn K (.ref x_Old_put_shades) = true)
    (g_law_put : PySem.W.nsIn K mainGlobals "_law_put" = some (some (.ref x_law_put)))
    (l_law_put : K.lookup x_law_put = some ⟨oc_law_put, od_law_put, .func (PySem.W.fnOf "_law_put" "_law_put" (defArgs st_law_put) (defBody st_law_put) (defScope st_law_put) .none kV_law_put dc_law_put pm_law_put an_law_put cd_law_put ct_law_put), sl_law_put⟩)
    (c_law_put' : PySem.W.codeIn K cd_law_put "_law_put" = true)
    (k_law_put : PySem.W.keepIn K (.ref x_law_put) = true)
    (l_Fence_marks_new : K.lookup x_Fence_marks_new = some ⟨oc_Fence_marks_new, od_Fence_marks_new, .func (PySem.W.fnOf "marks_new" "Fence.marks_new" (defArgs st_Fence_marks_new) (defBody st_Fence_marks_new) (defScope st_Fence_marks_new) .none kV_Fence_marks_new dc_Fence_marks_new pm_Fence_marks_new an_Fence_marks_new cd_Fence_marks_new ct_Fence_marks_new), sl_Fence_marks_new⟩)
    (c_Fence_marks_new' : PySem.W.codeIn K cd_Fence_marks_new "Fence.marks_new" = true)
    (k_Fence_marks_new : PySem.W.keepIn K (.ref x_Fence_marks_new) = true)
    (i_Fence_marks_new : PySem.W.isFn K (.ref x_Fence_marks_new) = true)
    (l_Fence_shades_look : K.lookup x_Fence_shades_look = some ⟨oc_Fence_shades_look, od_Fence_shades_look, .func (PySem.W.fnOf "shades_look" "Fence.shades_look" (defArgs st_Fence_shades_look) (defBody st_Fence_shades_look) (defScope st_Fence_shades_look) .none kV_Fence_shades_look dc_Fence_shades_look pm_Fence_shades_look an_Fence_shades_look cd_Fence_shades_look ct_Fence_shades_look), sl_Fence_shades_look⟩)
    (c_Fence_shades_look' : PySem.W.codeIn K cd_Fence_shades_look "Fence.shades_look" = true)
    (k_Fence_shades_look : PySem.W.keepIn K (.ref x_Fence_shades_look) = true)
    (i_Fence_shades_look : PySem.W.isFn K (.ref x_Fence_shades_look) = true)
    (l_Marking_grey : K.lookup x_Marking_grey = some ⟨oc_Marking_grey, od_Marking_grey, .func (PySem.W.fnOf "grey" "Marking.grey" (defArgs st_Marking_grey) (defBody st_Marking_grey) (defScope st_Marking_grey) .none kV_Marking_grey dc_Marking_grey pm_Marking_grey an_Marking_grey cd_Marking_grey ct_Marking_grey), sl_Marking_grey⟩)
    (c_Marking_grey' : PySem.W.codeIn K cd_Marking_grey "Marking.grey" = true)
    (k_Marking_grey : PySem.W.keepIn K (.ref x_Marking_grey) = true)
    (i_Marking_grey : PySem.W.isFn K (.ref x_Marking_grey) = true)
    (g_made_of : PySem.W.nsIn K mainGlobals "made_of" = some (some (.ref x_made_of)))
    (l_made_of : K.lookup x_made_of = some ⟨oc_made_of, od_made_of, .func (PySem.W.fnOf "made_of" "made_of" (defArgs st_made_of) (defBody st_made_of) (defScope st_made_of) .none kV_made_of dc_made_of pm_made_of an_made_of cd_made_of ct_made_of), sl_made_of⟩)
    (c_made_of' : PySem.W.codeIn K cd_made_of "made_of" = true)
    (k_made_of : PySem.W.keepIn K (.ref x_made_of) = true)
    (l_Memory_size_at : K.lookup x_Memory_size_at = some ⟨oc_Memory_size_at, od_Memory_size_at, .func (PySem.W.fnOf "size_at" "Memory.size_at" (defArgs st_Memory_size_at) (defBody st_Memory_size_at) (defScope st_Memory_size_at) .none kV_Memory_size_at dc_Memory_size_at pm_Memory_size_at an_Memory_size_at cd_Memory_size_at ct_Memory_size_at), sl_Memory_size_at⟩)
    (c_Memory_size_at' : PySem.W.codeIn K cd_Memory_size_at "Memory.size_at" = true)
    (k_Memory_size_at : PySem.W.keepIn K (.ref x_Memory_size_at) = true)
    (i_Memory_size_at : PySem.W.isFn K (.ref x_Memory_size_at) = true)
    (l_Memory_thing_at : K.lookup x_Memory_thing_at = some ⟨oc_Memory_thing_at, od_Memory_thing_at, .func (PySem.W.fnOf "thing_at" "Memory.thing_at" (defArgs st_Memory_thing_at) (defBody st_Memory_thing_at) (defScope st_Memory_thing_at) .none kV_Memory_thing_at dc_Memory_thing_at pm_Memory_thing_at an_Memory_thing_at cd_Memory_thing_at ct_Memory_thing_at), sl_Memory_thing_at⟩)
    (c_Memory_thing_at' : PySem.W.codeIn K cd_Memory_thing_at "Memory.thing_at" = true)
    (k_Memory_thing_at : PySem.W.keepIn K (.ref x_Memory_thing_at) = true)
    (i_Memory_thing_at : PySem.W.isFn K (.ref x_Memory_thing_at) = true)
    (l_Plain_holds : K.lookup x_Plain_holds = some ⟨oc_Plain_holds, od_Plain_holds, .func (PySem.W.fnOf "holds" "Plain.holds" (defArgs st_Plain_holds) (defBody st_Plain_holds) (defScope st_Plain_holds) .none kV_Plain_holds dc_Plain_holds pm_Plain_holds an_Plain_holds cd_Plain_holds ct_Plain_holds), sl_Plain_holds⟩)
    (c_Plain_holds' : PySem.W.codeIn K cd_Plain_holds "Plain.holds" = true)
    (k_Plain_holds : PySem.W.keepIn K (.ref x_Plain_holds) = true)
    (i_Plain_holds : PySem.W.isFn K (.ref x_Plain_holds) = true)
    (l_Thing_holds : K.lookup x_Thing_holds = some ⟨oc_Thing_holds, od_Thing_holds, .func (PySem.W.fnOf "holds" "Thing.holds" (defArgs st_Thing_holds) (defBody st_Thing_holds) (defScope st_Thing_holds) .none kV_Thing_holds dc_Thing_holds pm_Thing_holds an_Thing_holds cd_Thing_holds ct_Thing_holds), sl_Thing_holds⟩)
    (c_Thing_holds' : PySem.W.codeIn K cd_Thing_holds "Thing.holds" = true)
    (k_Thing_holds : PySem.W.keepIn K (.ref x_Thing_holds) = true)
    (i_Thing_holds : PySem.W.isFn K (.ref x_Thing_holds) = true)
    (l_Marking_step : K.lookup x_Marking_step = some ⟨oc_Marking_step, od_Marking_step, .func (PySem.W.fnOf "step" "Marking.step" (defArgs st_Marking_step) (defBody st_Marking_step) (defScope st_Marking_step) .none kV_Marking_step dc_Marking_step pm_Marking_step an_Marking_step cd_Marking_step ct_Marking_step), sl_Marking_step⟩)
    (c_Marking_step' : PySem.W.codeIn K cd_Marking_step "Marking.step" = true)
    (k_Marking_step : PySem.W.keepIn K (.ref x_Marking_step) = true)
    (i_Marking_step : PySem.W.isFn K (.ref x_Marking_step) = true)
    (l_Old_marks_new : K.lookup x_Old_marks_new = some ⟨oc_Old_marks_new, od_Old_marks_new, .func (PySem.W.fnOf "marks_new" "Old.marks_new" (defArgs st_Old_marks_new) (defBody st_Old_marks_new) (defScope st_Old_marks_new) .none kV_Old_marks_new dc_Old_marks_new pm_Old_marks_new an_Old_marks_new cd_Old_marks_new ct_Old_marks_new), sl_Old_marks_new⟩)
    (c_Old_marks_new' : PySem.W.codeIn K cd_Old_marks_new "Old.marks_new" = true)
    (k_Old_marks_new : PySem.W.keepIn K (.ref x_Old_marks_new) = true)
    (i_Old_marks_new : PySem.W.isFn K (.ref x_Old_marks_new) = true)
    (l_Old_shades_look : K.lookup x_Old_shades_look = some ⟨oc_Old_shades_look, od_Old_shades_look, .func (PySem.W.fnOf "shades_look" "Old.shades_look" (defArgs st_Old_shades_look) (defBody st_Old_shades_look) (defScope st_Old_shades_look) .none kV_Old_shades_look dc_Old_shades_look pm_Old_shades_look an_Old_shades_look cd_Old_shades_look ct_Old_shades_look), sl_Old_shades_look⟩)
    (c_Old_shades_look' : PySem.W.codeIn K cd_Old_shades_look "Old.shades_look" = true)
    (k_Old_shades_look : PySem.W.keepIn K (.ref x_Old_shades_look) = true)
    (i_Old_shades_look : PySem.W.isFn K (.ref x_Old_shades_look) = true)
    (g_law_deed : PySem.W.nsIn K mainGlobals "_law_deed" = some (some (.ref x_law_deed)))
    (l_law_deed : K.lookup x_law_deed = some ⟨oc_law_deed, od_law_deed, .func (PySem.W.fnOf "_law_deed" "_law_deed" (defArgs st_law_deed) (defBody st_law_deed) (defScope st_law_deed) .none kV_law_deed dc_law_deed pm_law_deed an_law_deed cd_law_deed ct_law_deed), sl_law_deed⟩)
    (c_law_deed' : PySem.W.codeIn K cd_law_deed "_law_deed" = true)
    (k_law_deed : PySem.W.keepIn K (.ref x_law_deed) = true)
    (g_law_closing : PySem.W.nsIn K mainGlobals "_law_closing" = some (some (.ref x_law_closing)))
    (l_law_closing : K.lookup x_law_closing = some ⟨oc_law_closing, od_law_closing, .func (PySem.W.fnOf "_law_closing" "_law_closing" (defArgs st_law_closing) (defBody st_law_closing) (defScope st_law_closing) .none kV_law_closing dc_law_closing pm_law_closing an_law_closing cd_law_closing ct_law_closing), sl_law_closing⟩)
    (c_law_closing' : PySem.W.codeIn K cd_law_closing "_law_closing" = true)
    (k_law_closing : PySem.W.keepIn K (.ref x_law_closing) = true)
    (g_law_held : PySem.W.nsIn K mainGlobals "_law_held" = some (some (.ref x_law_held)))
    (l_law_held : K.lookup x_law_held = some ⟨oc_law_held, od_law_held, .func (PySem.W.fnOf "_law_held" "_law_held" (defArgs st_law_held) (defBody st_law_held) (defScope st_law_held) .none kV_law_held dc_law_held pm_law_held an_law_held cd_law_held ct_law_held), sl_law_held⟩)
    (c_law_held' : PySem.W.codeIn K cd_law_held "_law_held" = true)
    (k_law_held : PySem.W.keepIn K (.ref x_law_held) = true)
    (g_fence_of : PySem.W.nsIn K mainGlobals "fence_of" = some (some (.ref x_fence_of)))
    (l_fence_of : K.lookup x_fence_of = some ⟨oc_fence_of, od_fence_of, .func (PySem.W.fnOf "fence_of" "fence_of" (defArgs st_fence_of) (defBody st_fence_of) (defScope st_fence_of) .none kV_fence_of dc_fence_of pm_fence_of an_fence_of cd_fence_of ct_fence_of), sl_fence_of⟩)
    (c_fence_of' : PySem.W.codeIn K cd_fence_of "fence_of" = true)
    (k_fence_of : PySem.W.keepIn K (.ref x_fence_of) = true)
    (l_Marking_colour_of : K.lookup x_Marking_colour_of = some ⟨oc_Marking_colour_of, od_Marking_colour_of, .func (PySem.W.fnOf "colour_of" "Marking.colour_of" (defArgs st_Marking_colour_of) (defBody st_Marking_colour_of) (defScope st_Marking_colour_of) .none kV_Marking_colour_of dc_Marking_colour_of pm_Marking_colour_of an_Marking_colour_of cd_Marking_colour_of ct_Marking_colour_of), sl_Marking_colour_of⟩)
    (c_Marking_colour_of' : PySem.W.codeIn K cd_Marking_colour_of "Marking.colour_of" = true)
    (k_Marking_colour_of : PySem.W.keepIn K (.ref x_Marking_colour_of) = true)
    (i_Marking_colour_of : PySem.W.isFn K (.ref x_Marking_colour_of) = true)
    (l_Marking_init : K.lookup x_Marking_init = some ⟨oc_Marking_init, od_Marking_init, .func (PySem.W.fnOf "__init__" "Marking.__init__" (defArgs st_Marking_init) (defBody st_Marking_init) (defScope st_Marking_init) .none kV_Marking_init dc_Marking_init pm_Marking_init an_Marking_init cd_Marking_init ct_Marking_init), sl_Marking_init⟩)
    (c_Marking_init' : PySem.W.codeIn K cd_Marking_init "Marking.__init__" = true)
    (k_Marking_init : PySem.W.keepIn K (.ref x_Marking_init) = true)
    (i_Marking_init : PySem.W.isFn K (.ref x_Marking_init) = true)
    (l_Rooms_init : K.lookup x_Rooms_init = some ⟨oc_Rooms_init, od_Rooms_init, .func (PySem.W.fnOf "__init__" "Rooms.__init__" (defArgs st_Rooms_init) (defBody st_Rooms_init) (defScope st_Rooms_init) .none kV_Rooms_init dc_Rooms_init pm_Rooms_init an_Rooms_init cd_Rooms_init ct_Rooms_init), sl_Rooms_init⟩)
    (c_Rooms_init' : PySem.W.codeIn K cd_Rooms_init "Rooms.__init__" = true)
    (k_Rooms_init : PySem.W.keepIn K (.ref x_Rooms_init) = true)
    (i_Rooms_init : PySem.W.isFn K (.ref x_Rooms_init) = true)
    (l_Memory_init : K.lookup x_Memory_init = some ⟨oc_Memory_init, od_Memory_init, .func (PySem.W.fnOf "__init__" "Memory.__init__" (defArgs st_Memory_init) (defBody st_Memory_init) (defScope st_Memory_init) .none kV_Memory_init dc_Memory_init pm_Memory_init an_Memory_init cd_Memory_init ct_Memory_init), sl_Memory_init⟩)
    (c_Memory_init' : PySem.W.codeIn K cd_Memory_init "Memory.__init__" = true)
    (k_Memory_init : PySem.W.keepIn K (.ref x_Memory_init) = true)
    (i_Memory_init : PySem.W.isFn K (.ref x_Memory_init) = true)
    (g_law : PySem.W.nsIn K mainGlobals "law" = some (some (.ref x_law)))
    (l_law : K.lookup x_law = some ⟨oc_law, od_law, .func (PySem.W.fnOf "law" "law" (defArgs st_law) (defBody st_law) (defScope st_law) .none kV_law dc_law pm_law an_law cd_law ct_law), sl_law⟩)
    (c_law' : PySem.W.codeIn K cd_law "law" = true)
    (k_law : PySem.W.keepIn K (.ref x_law) = true)
    (f_Marking_init' : PySem.W.findIn K (.ref C_Marking) "__init__" = some (some (.ref x_Marking_init)))
    (f_Marking_colour_of' : PySem.W.findIn K (.ref C_Marking) "colour_of" = some (some (.ref x_Marking_colour_of)))
    (f_Marking_grey' : PySem.W.findIn K (.ref C_Marking) "grey" = some (some (.ref x_Marking_grey)))
    (f_Marking_shade' : PySem.W.findIn K (.ref C_Marking) "shade" = some (some (.ref x_Marking_shade)))
    (f_Marking_step' : PySem.W.findIn K (.ref C_Marking) "step" = some (some (.ref x_Marking_step)))
    (f_Memory_init' : PySem.W.findIn K (.ref C_Memory) "__init__" = some (some (.ref x_Memory_init)))
    (f_Memory_first_field' : PySem.W.findIn K (.ref C_Memory) "first_field" = some (some (.ref x_Memory_first_field)))
    (f_Memory_marked_at' : PySem.W.findIn K (.ref C_Memory) "marked_at" = some (some (.ref x_Memory_marked_at)))
    (f_Memory_put_in' : PySem.W.findIn K (.ref C_Memory) "put_in" = some (some (.ref x_Memory_put_in)))
    (f_Memory_set_field' : PySem.W.findIn K (.ref C_Memory) "set_field" = some (some (.ref x_Memory_set_field)))
    (f_Memory_set_mark' : PySem.W.findIn K (.ref C_Memory) "set_mark" = some (some (.ref x_Memory_set_mark)))
    (f_Memory_size_at' : PySem.W.findIn K (.ref C_Memory) "size_at" = some (some (.ref x_Memory_size_at)))
    (f_Memory_sort_at' : PySem.W.findIn K (.ref C_Memory) "sort_at" = some (some (.ref x_Memory_sort_at)))
    (f_Memory_thing_at' : PySem.W.findIn K (.ref C_Memory) "thing_at" = some (some (.ref x_Memory_thing_at)))
    (f_New_marks_new' : PySem.W.findIn K (.ref C_New) "marks_new" = some (some (.ref x_Fence_marks_new)))
    (f_New_put_shades' : PySem.W.findIn K (.ref C_New) "put_shades" = some (some (.ref x_New_put_shades)))
    (f_New_shades_look' : PySem.W.findIn K (.ref C_New) "shades_look" = some (some (.ref x_Fence_shades_look)))
    (f_Old_marks_new' : PySem.W.findIn K (.ref C_Old) "marks_new" = some (some (.ref x_Old_marks_new)))
    (f_Old_put_shades' : PySem.W.findIn K (.ref C_Old) "put_shades" = some (some (.ref x_Old_put_shades)))
    (f_Old_shades_look' : PySem.W.findIn K (.ref C_Old) "shades_look" = some (some (.ref x_Old_shades_look)))
    (f_Pair_init' : PySem.W.findIn K (.ref C_Pair) "__init__" = some (some (.ref x_Thing_init)))
    (f_Pair_fields' : PySem.W.findIn K (.ref C_Pair) "fields" = some (some (.ref x_Thing_fields)))
    (f_Pair_holds' : PySem.W.findIn K (.ref C_Pair) "holds" = some (some (.ref x_Thing_holds)))
    (f_Pair_sort_of' : PySem.W.findIn K (.ref C_Pair) "sort_of" = some (some (.ref x_Pair_sort_of)))
    (f_Pair_words' : PySem.W.findIn K (.ref C_Pair) "words" = some (some (.ref x_Thing_words)))
    (f_Plain_init' : PySem.W.findIn K (.ref C_Plain) "__init__" = some (some (.ref x_Plain_init)))
    (f_Plain_fields' : PySem.W.findIn K (.ref C_Plain) "fields" = some (some (.ref x_Thing_fields)))
    (f_Plain_holds' : PySem.W.findIn K (.ref C_Plain) "holds" = some (some (.ref x_Plain_holds)))
    (f_Plain_sort_of' : PySem.W.findIn K (.ref C_Plain) "sort_of" = some (some (.ref x_Plain_sort_of)))
    (f_Plain_words' : PySem.W.findIn K (.ref C_Plain) "words" = some (some (.ref x_Plain_words)))
    (f_Rooms_init' : PySem.W.findIn K (.ref C_Rooms) "__init__" = some (some (.ref x_Rooms_init)))
    (f_Rooms_fill_in' : PySem.W.findIn K (.ref C_Rooms) "fill_in" = some (some (.ref x_Rooms_fill_in)))
    (f_Rooms_gap' : PySem.W.findIn K (.ref C_Rooms) "gap" = some (some (.ref x_Rooms_gap)))
    (f_Rooms_gap_in' : PySem.W.findIn K (.ref C_Rooms) "gap_in" = some (some (.ref x_Rooms_gap_in)))
    (f_Rooms_read' : PySem.W.findIn K (.ref C_Rooms) "read" = some (some (.ref x_Rooms_read)))
    (f_Rooms_write' : PySem.W.findIn K (.ref C_Rooms) "write" = some (some (.ref x_Rooms_write)))
    (f_Thing_init' : PySem.W.findIn K (.ref C_Thing) "__init__" = some (some (.ref x_Thing_init)))
    (f_Thing_fields' : PySem.W.findIn K (.ref C_Thing) "fields" = some (some (.ref x_Thing_fields)))
    (f_Thing_holds' : PySem.W.findIn K (.ref C_Thing) "holds" = some (some (.ref x_Thing_holds)))
    (f_Thing_sort_of' : PySem.W.findIn K (.ref C_Thing) "sort_of" = some (some (.ref x_Thing_sort_of)))
    (f_Thing_words' : PySem.W.findIn K (.ref C_Thing) "words" = some (some (.ref x_Thing_words)))
    (i0_New : PySem.W.findIn K (.ref C_New) "__init__" = some (some (.builtin "object.__init__")))
    (i0_Old : PySem.W.findIn K (.ref C_Old) "__init__" = some (some (.builtin "object.__init__")))
    (rd_Thing : PySem.W.readsIn K C_Thing (.type "type") = true)
    (ga_Thing : PySem.W.specialIn K (.ref C_Thing) "__getattribute__" = some (some (.builtin "type.__getattribute__")))
    (u_Thing_init : PySem.W.findCls K (.ref C_Thing) (.type "type") "__init__" = some (.val (.ref x_Thing_init)))
    (aK_NOTHING : PySem.W.nsIn K mainGlobals "NOTHING" = some (some (.ref K_NOTHING)))
    (lK_NOTHING : K.lookup K_NOTHING = some ⟨.type "tuple", none, .seq #[.str "nothing" tk_NOTHING_0] nn_NOTHING, slk_NOTHING⟩)
    (aK_SORTS : PySem.W.nsIn K mainGlobals "SORTS" = some (some (.ref K_SORTS)))
    (lK_SORTS : K.lookup K_SORTS = some ⟨.type "tuple", none, .seq #[.str "plain" tk_SORTS_0, .str "weak" tk_SORTS_1, .str "pair" tk_SORTS_2] nn_SORTS, slk_SORTS⟩)
    (z_abs : PySem.W.nsIn K mainGlobals "abs" = some none)
    (z_dict : PySem.W.nsIn K mainGlobals "dict" = some none)
    (z_enumerate : PySem.W.nsIn K mainGlobals "enumerate" = some none)
    (z_int : PySem.W.nsIn K mainGlobals "int" = some none)
    (z_len : PySem.W.nsIn K mainGlobals "len" = some none)
    (z_list : PySem.W.nsIn K mainGlobals "list" = some none)
    (z_range : PySem.W.nsIn K mainGlobals "range" = some none)
    (z_sorted : PySem.W.nsIn K mainGlobals "sorted" = some none)
    (hlaw : ∀ ns : List Int, ns.length ≤ 63 → (∀ z ∈ ns, Builtin.Int.intBits z ≤ 1048576) → ∃ S', f_law [scr ns] [] = .ok (.bl true) S') :
    ∃ (fd : FuncData) (G : Ga), (∀ (s : Shared) (v : Value), BindsTo s fd ⟨[v], []⟩ [("_law_script", v)]) ∧ ∀ base : Heap, K.In base → base.Ns mainGlobals mg → FnOk l.prog w K mg base (L2.CX l.prog w) 8 fa fd ["_law_script"] (SpM K G f_law 1) := by
  have e := hfa.symm.trans (PySem.W.mg_of X Gn g_law)
  cases e
  have g : Gok K (ga C_Fence C_Marking C_Memory C_New C_Old C_Pair C_Plain C_Rooms C_Thing) := by
    refine ⟨fun c hc => ?_, fun c f hc hf => ?_⟩
    · cases c <;> first | exact absurd (show false = true from hc) Bool.false_ne_true | skip
      · exact ⟨pg_Rooms, hd_Rooms, po_Rooms, sa_Rooms⟩
      · exact ⟨pg_Thing, hd_Thing, po_Thing, sa_Thing⟩
      · exact ⟨pg_Plain, hd_Plain, po_Plain, sa_Plain⟩
      · exact ⟨pg_Pair, hd_Pair, po_Pair, sa_Pair⟩
      · exact ⟨pg_Memory, hd_Memory, po_Memory, sa_Memory⟩
      · exact ⟨pg_Marking, hd_Marking, po_Marking, sa_Marking⟩
      · exact ⟨pg_Fence, hd_Fence, po_Fence, sa_Fence⟩
      · exact ⟨pg_New, hd_New, po_New, sa_New⟩
      · exact ⟨pg_Old, hd_Old, po_Old, sa_Old⟩
    · cases c <;> (first | exact absurd (show false = true from hc) Bool.false_ne_true | skip) <;> cases f <;> first | exact absurd (show false = true from hf) Bool.false_ne_true | exact n_Marking_memory | exact n_Marking_line | exact n_Memory_rooms | exact n_Pair_row | exact n_Plain_row | exact n_Plain_last_words | exact n_Rooms_many | exact n_Rooms_cells | exact n_Rooms_inside | exact n_Thing_row
  have B : Blt mg := ⟨PySem.W.mg_none_of X Gn z_abs, PySem.W.mg_none_of X Gn z_dict, PySem.W.mg_none_of X Gn z_enumerate, PySem.W.mg_none_of X Gn z_int, PySem.W.mg_none_of X Gn z_len, PySem.W.mg_none_of X Gn z_list, PySem.W.mg_none_of X Gn z_range, PySem.W.mg_none_of X Gn z_sorted⟩
  have F'law_cell_at := fun_mk (st := st_law_cell_at) l_law_cell_at c_law_cell_at' k_law_cell_at
  have b'law_cell_at := F'law_cell_at.binds (ps := ["_law_script", "_law_k"]) fun _ _ _ _ _ _ us hl => match us, hl with | [_, _], _ => rfl
  have F'law_cell_by := fun_mk (st := st_law_cell_by) l_law_cell_by c_law_cell_by' k_law_cell_by
  have b'law_cell_by := F'law_cell_by.binds (ps := ["_law_cell", "_law_free"]) fun _ _ _ _ _ _ us hl => match us, hl with | [_, _], _ => rfl
  have F'law_cut := fun_mk (st := st_law_cut) l_law_cut c_law_cut' k_law_cut
  have b'law_cut := F'law_cut.binds (ps := ["_law_cell", "_law_sizes"]) fun _ _ _ _ _ _ us hl => match us, hl with | [_, _], _ => rfl
  have F'law_brought := fun_mk (st := st_law_brought) l_law_brought c_law_brought' k_law_brought
  have b'law_brought := F'law_brought.binds (ps := ["_law_state", "_law_parts"]) fun _ _ _ _ _ _ us hl => match us, hl with | [_, _], _ => rfl
  have F'law_give := fun_mk (st := st_law_give) l_law_give c_law_give' k_law_give
  have b'law_give := F'law_give.binds (ps := ["_law_state", "_law_slot", "_law_value"]) fun _ _ _ _ _ _ us hl => match us, hl with | [_, _, _], _ => rfl
  have F'header := fun_mk (st := st_header) l_header c_header' k_header
  have b'header := F'header.binds (ps := ["kind", "marked", "words", "size"]) fun _ _ _ _ _ _ us hl => match us, hl with | [_, _, _, _], _ => rfl
  have F'words_cell := fun_mk (st := st_words_cell) l_words_cell c_words_cell' k_words_cell
  have b'words_cell := F'words_cell.binds (ps := ["words"]) fun _ _ _ _ _ _ us hl => match us, hl with | [_], _ => rfl
  have F'Pair_sort_of := fun_mk (st := st_Pair_sort_of) l_Pair_sort_of c_Pair_sort_of' k_Pair_sort_of
  have b'Pair_sort_of := F'Pair_sort_of.binds (ps := ["self"]) fun _ _ _ _ _ _ us hl => match us, hl with | [_], _ => rfl
  have F'Plain_sort_of := fun_mk (st := st_Plain_sort_of) l_Plain_sort_of c_Plain_sort_of' k_Plain_sort_of
  have b'Plain_sort_of := F'Plain_sort_of.binds (ps := ["self"]) fun _ _ _ _ _ _ us hl => match us, hl with | [_], _ => rfl
  have F'Plain_words := fun_mk (st := st_Plain_words) l_Plain_words c_Plain_words' k_Plain_words
  have b'Plain_words := F'Plain_words.binds (ps := ["self"]) fun _ _ _ _ _ _ us hl => match us, hl with | [_], _ => rfl
  have F'Thing_fields := fun_mk (st := st_Thing_fields) l_Thing_fields c_Thing_fields' k_Thing_fields
  have b'Thing_fields := F'Thing_fields.binds (ps := ["self"]) fun _ _ _ _ _ _ us hl => match us, hl with | [_], _ => rfl
  have F'Thing_sort_of := fun_mk (st := st_Thing_sort_of) l_Thing_sort_of c_Thing_sort_of' k_Thing_sort_of
  have b'Thing_sort_of := F'Thing_sort_of.binds (ps := ["self"]) fun _ _ _ _ _ _ us hl => match us, hl with | [_], _ => rfl
  have F'Thing_words := fun_mk (st := st_Thing_words) l_Thing_words c_Thing_words' k_Thing_words
  have b'Thing_words := F'Thing_words.binds (ps := ["self"]) fun _ _ _ _ _ _ us hl => match us, hl with | [_], _ => rfl
  have F'laid := fun_mk (st := st_laid) l_laid c_laid' k_laid
  have b'laid := F'laid.binds (ps := ["thing", "serial", "marked"]) fun _ _ _ _ _ _ us hl => match us, hl with | [_, _, _], _ => rfl
  have F'Rooms_fill_in := fun_mk (st := st_Rooms_fill_in) l_Rooms_fill_in c_Rooms_fill_in' k_Rooms_fill_in
  have b'Rooms_fill_in := F'Rooms_fill_in.binds (ps := ["self", "place", "some"]) fun _ _ _ _ _ _ us hl => match us, hl with | [_, _, _], _ => rfl
  have F'Rooms_gap_in := fun_mk (st := st_Rooms_gap_in) l_Rooms_gap_in c_Rooms_gap_in' k_Rooms_gap_in
  have b'Rooms_gap_in := F'Rooms_gap_in.binds (ps := ["self", "room", "length"]) fun _ _ _ _ _ _ us hl => match us, hl with | [_, _, _], _ => rfl
  have F'Rooms_gap := fun_mk (st := st_Rooms_gap) l_Rooms_gap c_Rooms_gap' k_Rooms_gap
  have b'Rooms_gap := F'Rooms_gap.binds (ps := ["self", "length"]) fun _ _ _ _ _ _ us hl => match us, hl with | [_, _], _ => rfl
  have F'Memory_put_in := fun_mk (st := st_Memory_put_in) l_Memory_put_in c_Memory_put_in' k_Memory_put_in
  have b'Memory_put_in := F'Memory_put_in.binds (ps := ["self", "thing", "serial", "marked"]) fun _ _ _ _ _ _ us hl => match us, hl with | [_, _, _, _], _ => rfl
  have F'law_made := fun_mk (st := st_law_made) l_law_made c_law_made' k_law_made
  have b'law_made := F'law_made.binds (ps := ["_law_state", "_law_thing", "_law_shape", "_law_slot", "_law_marked"]) fun _ _ _ _ _ _ us hl => match us, hl with | [_, _, _, _, _], _ => rfl
  have F'Thing_init := fun_mk (st := st_Thing_init) l_Thing_init c_Thing_init' k_Thing_init
  have b'Thing_init := F'Thing_init.binds (ps := ["self", "row"]) fun _ _ _ _ _ _ us hl => match us, hl with | [_, _], _ => rfl
  have F'pair := fun_mk (st := st_pair) l_pair c_pair' k_pair
  have b'pair := F'pair.binds (ps := ["key", "value"]) fun _ _ _ _ _ _ us hl => match us, hl with | [_, _], _ => rfl
  have F'Plain_init := fun_mk (st := st_Plain_init) l_Plain_init c_Plain_init' k_Plain_init
  have b'Plain_init := F'Plain_init.binds (ps := ["self", "row", "last_words"]) fun _ _ _ _ _ _ us hl => match us, hl with | [_, _, _], _ => rfl
  have F'plain := fun_mk (st := st_plain) l_plain c_plain' k_plain
  have b'plain := F'plain.binds (ps := ["fields", "words"]) fun _ _ _ _ _ _ us hl => match us, hl with | [_, _], _ => rfl
  have F'weak := fun_mk (st := st_weak) l_weak c_weak' k_weak
  have b'weak := F'weak.binds (ps := ["field"]) fun _ _ _ _ _ _ us hl => match us, hl with | [_], _ => rfl
  have F'law_new := fun_mk (st := st_law_new) l_law_new c_law_new' k_law_new
  have b'law_new := F'law_new.binds (ps := ["_law_state", "_law_parts", "_law_marked"]) fun _ _ _ _ _ _ us hl => match us, hl with | [_, _, _], _ => rfl
  have F'is_marked := fun_mk (st := st_is_marked) l_is_marked c_is_marked' k_is_marked
  have b'is_marked := F'is_marked.binds (ps := ["number"]) fun _ _ _ _ _ _ us hl => match us, hl with | [_], _ => rfl
  have F'Rooms_read := fun_mk (st := st_Rooms_read) l_Rooms_read c_Rooms_read' k_Rooms_read
  have b'Rooms_read := F'Rooms_read.binds (ps := ["self", "place"]) fun _ _ _ _ _ _ us hl => match us, hl with | [_, _], _ => rfl
  have F'Memory_marked_at := fun_mk (st := st_Memory_marked_at) l_Memory_marked_at c_Memory_marked_at' k_Memory_marked_at
  have b'Memory_marked_at := F'Memory_marked_at.binds (ps := ["self", "place"]) fun _ _ _ _ _ _ us hl => match us, hl with | [_, _], _ => rfl
  have F'has_words := fun_mk (st := st_has_words) l_has_words c_has_words' k_has_words
  have b'has_words := F'has_words.binds (ps := ["number"]) fun _ _ _ _ _ _ us hl => match us, hl with | [_], _ => rfl
  have F'kind_in := fun_mk (st := st_kind_in) l_kind_in c_kind_in' k_kind_in
  have b'kind_in := F'kind_in.binds (ps := ["number"]) fun _ _ _ _ _ _ us hl => match us, hl with | [_], _ => rfl
  have F'size_in := fun_mk (st := st_size_in) l_size_in c_size_in' k_size_in
  have b'size_in := F'size_in.binds (ps := ["number"]) fun _ _ _ _ _ _ us hl => match us, hl with | [_], _ => rfl
  have F'with_mark := fun_mk (st := st_with_mark) l_with_mark c_with_mark' k_with_mark
  have b'with_mark := F'with_mark.binds (ps := ["number", "marked"]) fun _ _ _ _ _ _ us hl => match us, hl with | [_, _], _ => rfl
  have F'Rooms_write := fun_mk (st := st_Rooms_write) l_Rooms_write c_Rooms_write' k_Rooms_write
  have b'Rooms_write := F'Rooms_write.binds (ps := ["self", "place", "value"]) fun _ _ _ _ _ _ us hl => match us, hl with | [_, _, _], _ => rfl
  have F'Memory_set_mark := fun_mk (st := st_Memory_set_mark) l_Memory_set_mark c_Memory_set_mark' k_Memory_set_mark
  have b'Memory_set_mark := F'Memory_set_mark.binds (ps := ["self", "place", "marked"]) fun _ _ _ _ _ _ us hl => match us, hl with | [_, _, _], _ => rfl
  have F'Marking_shade := fun_mk (st := st_Marking_shade) l_Marking_shade c_Marking_shade' k_Marking_shade
  have b'Marking_shade := F'Marking_shade.binds (ps := ["self", "place"]) fun _ _ _ _ _ _ us hl => match us, hl with | [_, _], _ => rfl
  have F'Memory_sort_at := fun_mk (st := st_Memory_sort_at) l_Memory_sort_at c_Memory_sort_at' k_Memory_sort_at
  have b'Memory_sort_at := F'Memory_sort_at.binds (ps := ["self", "place"]) fun _ _ _ _ _ _ us hl => match us, hl with | [_, _], _ => rfl
  have F'Memory_first_field := fun_mk (st := st_Memory_first_field) l_Memory_first_field c_Memory_first_field' k_Memory_first_field
  have b'Memory_first_field := F'Memory_first_field.binds (ps := ["self", "place"]) fun _ _ _ _ _ _ us hl => match us, hl with | [_, _], _ => rfl
  have F'Memory_set_field := fun_mk (st := st_Memory_set_field) l_Memory_set_field c_Memory_set_field' k_Memory_set_field
  have b'Memory_set_field := F'Memory_set_field.binds (ps := ["self", "place", "at", "value"]) fun _ _ _ _ _ _ us hl => match us, hl with | [_, _, _, _], _ => rfl
  have F'is_thing := fun_mk (st := st_is_thing) l_is_thing c_is_thing' k_is_thing
  have b'is_thing := F'is_thing.binds (ps := ["value"]) fun _ _ _ _ _ _ us hl => match us, hl with | [_], _ => rfl
  have F'named_by := fun_mk (st := st_named_by) l_named_by c_named_by' k_named_by
  have b'named_by := F'named_by.binds (ps := ["value"]) fun _ _ _ _ _ _ us hl => match us, hl with | [_], _ => rfl
  have F'New_put_shades := fun_mk (st := st_New_put_shades) l_New_put_shades c_New_put_shades' k_New_put_shades
  have b'New_put_shades := F'New_put_shades.binds (ps := ["self", "was", "becomes"]) fun _ _ _ _ _ _ us hl => match us, hl with | [_, _, _], _ => rfl
  have F'Old_put_shades := fun_mk (st := st_Old_put_shades) l_Old_put_shades c_Old_put_shades' k_Old_put_shades
  have b'Old_put_shades := F'Old_put_shades.binds (ps := ["self", "was", "becomes"]) fun _ _ _ _ _ _ us hl => match us, hl with | [_, _, _], _ => rfl
  have F'law_put := fun_mk (st := st_law_put) l_law_put c_law_put' k_law_put
  have b'law_put := F'law_put.binds (ps := ["_law_state", "_law_parts", "_law_fence", "_law_marking"]) fun _ _ _ _ _ _ us hl => match us, hl with | [_, _, _, _], _ => rfl
  have F'Fence_marks_new := fun_mk (st := st_Fence_marks_new) l_Fence_marks_new c_Fence_marks_new' k_Fence_marks_new
  have b'Fence_marks_new := F'Fence_marks_new.binds (ps := ["self"]) fun _ _ _ _ _ _ us hl => match us, hl with | [_], _ => rfl
  have F'Fence_shades_look := fun_mk (st := st_Fence_shades_look) l_Fence_shades_look c_Fence_shades_look' k_Fence_shades_look
  have b'Fence_shades_look := F'Fence_shades_look.binds (ps := ["self"]) fun _ _ _ _ _ _ us hl => match us, hl with | [_], _ => rfl
  have F'Marking_grey := fun_mk (st := st_Marking_grey) l_Marking_grey c_Marking_grey' k_Marking_grey
  have b'Marking_grey := F'Marking_grey.binds (ps := ["self"]) fun _ _ _ _ _ _ us hl => match us, hl with | [_], _ => rfl
  have F'made_of := fun_mk (st := st_made_of) l_made_of c_made_of' k_made_of
  have b'made_of := F'made_of.binds (ps := ["sort", "fields", "words"]) fun _ _ _ _ _ _ us hl => match us, hl with | [_, _, _], _ => rfl
  have F'Memory_size_at := fun_mk (st := st_Memory_size_at) l_Memory_size_at c_Memory_size_at' k_Memory_size_at
  have b'Memory_size_at := F'Memory_size_at.binds (ps := ["self", "place"]) fun _ _ _ _ _ _ us hl => match us, hl with | [_, _], _ => rfl
  have F'Memory_thing_at := fun_mk (st := st_Memory_thing_at) l_Memory_thing_at c_Memory_thing_at' k_Memory_thing_at
  have b'Memory_thing_at := F'Memory_thing_at.binds (ps := ["self", "place"]) fun _ _ _ _ _ _ us hl => match us, hl with | [_, _], _ => rfl
  have F'Plain_holds := fun_mk (st := st_Plain_holds) l_Plain_holds c_Plain_holds' k_Plain_holds
  have b'Plain_holds := F'Plain_holds.binds (ps := ["self"]) fun _ _ _ _ _ _ us hl => match us, hl with | [_], _ => rfl
  have F'Thing_holds := fun_mk (st := st_Thing_holds) l_Thing_holds c_Thing_holds' k_Thing_holds
  have b'Thing_holds := F'Thing_holds.binds (ps := ["self"]) fun _ _ _ _ _ _ us hl => match us, hl with | [_], _ => rfl
  have F'Marking_step := fun_mk (st := st_Marking_step) l_Marking_step c_Marking_step' k_Marking_step
  have b'Marking_step := F'Marking_step.binds (ps := ["self"]) fun _ _ _ _ _ _ us hl => match us, hl with | [_], _ => rfl
  have F'Old_marks_new := fun_mk (st := st_Old_marks_new) l_Old_marks_new c_Old_marks_new' k_Old_marks_new
  have b'Old_marks_new := F'Old_marks_new.binds (ps := ["self"]) fun _ _ _ _ _ _ us hl => match us, hl with | [_], _ => rfl
  have F'Old_shades_look := fun_mk (st := st_Old_shades_look) l_Old_shades_look c_Old_shades_look' k_Old_shades_look
  have b'Old_shades_look := F'Old_shades_look.binds (ps := ["self"]) fun _ _ _ _ _ _ us hl => match us, hl with | [_], _ => rfl
  have F'law_deed := fun_mk (st := st_law_deed) l_law_deed c_law_deed' k_law_deed
  have b'law_deed := F'law_deed.binds (ps := ["_law_state", "_law_parts", "_law_fence", "_law_marking"]) fun _ _ _ _ _ _ us hl => match us, hl with | [_, _, _, _], _ => rfl
  have F'law_closing := fun_mk (st := st_law_closing) l_law_closing c_law_closing' k_law_closing
  have b'law_closing := F'law_closing.binds (ps := ["_law_things", "_law_some"]) fun _ _ _ _ _ _ us hl => match us, hl with | [_, _], _ => rfl
  have F'law_held := fun_mk (st := st_law_held) l_law_held c_law_held' k_law_held
  have b'law_held := F'law_held.binds (ps := ["_law_state", "_law_marking"]) fun _ _ _ _ _ _ us hl => match us, hl with | [_, _], _ => rfl
  have F'fence_of := fun_mk (st := st_fence_of) l_fence_of c_fence_of' k_fence_of
  have b'fence_of := F'fence_of.binds (ps := ["word"]) fun _ _ _ _ _ _ us hl => match us, hl with | [_], _ => rfl
  have F'Marking_colour_of := fun_mk (st := st_Marking_colour_of) l_Marking_colour_of c_Marking_colour_of' k_Marking_colour_of
  have b'Marking_colour_of := F'Marking_colour_of.binds (ps := ["self", "place"]) fun _ _ _ _ _ _ us hl => match us, hl with | [_, _], _ => rfl
  have F'Marking_init := fun_mk (st := st_Marking_init) l_Marking_init c_Marking_init' k_Marking_init
  have b'Marking_init := F'Marking_init.binds (ps := ["self", "memory"]) fun _ _ _ _ _ _ us hl => match us, hl with | [_, _], _ => rfl
  have F'Rooms_init := fun_mk (st := st_Rooms_init) l_Rooms_init c_Rooms_init' k_Rooms_init
  have b'Rooms_init := F'Rooms_init.binds (ps := ["self", "many", "cells"]) fun _ _ _ _ _ _ us hl => match us, hl with | [_, _, _], _ => rfl
  have F'Memory_init := fun_mk (st := st_Memory_init) l_Memory_init c_Memory_init' k_Memory_init
  have b'Memory_init := F'Memory_init.binds (ps := ["self", "many", "cells"]) fun _ _ _ _ _ _ us hl => match us, hl with | [_, _, _], _ => rfl
  have F'law := fun_mk (st := st_law) l_law c_law' k_law
  refine ⟨PySem.W.fnOf "law" "law" (defArgs st_law) (defBody st_law) (defScope st_law) .none kV_law dc_law pm_law an_law cd_law ct_law, ga C_Fence C_Marking C_Memory C_New C_Old C_Pair C_Plain C_Rooms C_Thing, fun s v => .of_eq rfl, fun base _ _ => ?_⟩
  have ok'law_cell_at := ok_law_cell_at (P := l.prog) (w := w) (base := base) F'law_cell_at g B 
  have ok'law_cell_by := ok_law_cell_by (P := l.prog) (w := w) (base := base) F'law_cell_by g B 
  have ok'law_cut := ok_law_cut (P := l.prog) (w := w) (base := base) F'law_cut g B 
  have ok'law_brought := ok_law_brought (P := l.prog) (w := w) (base := base) F'law_brought g B 
  have ok'law_give := ok_law_give (P := l.prog) (w := w) (base := base) F'law_give g B 
  have ok'header := ok_header (P := l.prog) (w := w) (base := base) F'header g B 
  have T_NOTHING : GlT K mg "NOTHING" c_NOTHING := ⟨K_NOTHING, _, nn_NOTHING, slk_NOTHING, PySem.W.mg_of X Gn aK_NOTHING, lK_NOTHING, by show 1 ≤ sizeLine; rw [sizeLine_eq]; decide, (.cons ⟨_, rfl⟩ .nil)⟩
  have ok'words_cell := ok_words_cell (P := l.prog) (w := w) (base := base) F'words_cell g B T_NOTHING
  have ok'Pair_sort_of := ok_Pair_sort_of (P := l.prog) (w := w) (base := base) F'Pair_sort_of g B 
  have ok'Plain_sort_of := ok_Plain_sort_of (P := l.prog) (w := w) (base := base) F'Plain_sort_of g B 
  have ok'Plain_words := ok_Plain_words (P := l.prog) (w := w) (base := base) F'Plain_words g B 
  have ok'Thing_fields := ok_Thing_fields (P := l.prog) (w := w) (base := base) F'Thing_fields g B 
  have ok'Thing_sort_of := ok_Thing_sort_of (P := l.prog) (w := w) (base := base) F'Thing_sort_of g B 
  have ok'Thing_words := ok_Thing_words (P := l.prog) (w := w) (base := base) F'Thing_words g B 
  have X_Thing_sort_of : FnC l.prog w K mg base (ga C_Fence C_Marking C_Memory C_New C_Old C_Pair C_Plain C_Rooms C_Thing) 1 .Thing "sort_of" f_Thing_sort_of 1 := ⟨_, _, _, ok'Thing_sort_of, ⟨f_Thing_sort_of', i_Thing_sort_of, k_Thing_sort_of⟩, b'Thing_sort_of, rfl⟩
  have X_Plain_sort_of : FnC l.prog w K mg base (ga C_Fence C_Marking C_Memory C_New C_Old C_Pair C_Plain C_Rooms C_Thing) 1 .Plain "sort_of" f_Plain_sort_of 1 := ⟨_, _, _, ok'Plain_sort_of, ⟨f_Plain_sort_of', i_Plain_sort_of, k_Plain_sort_of⟩, b'Plain_sort_of, rfl⟩
  have X_Pair_sort_of : FnC l.prog w K mg base (ga C_Fence C_Marking C_Memory C_New C_Old C_Pair C_Plain C_Rooms C_Thing) 1 .Pair "sort_of" f_Pair_sort_of 1 := ⟨_, _, _, ok'Pair_sort_of, ⟨f_Pair_sort_of', i_Pair_sort_of, k_Pair_sort_of⟩, b'Pair_sort_of, rfl⟩
  have F_words_cell : FnG l.prog w K mg base (ga C_Fence C_Marking C_Memory C_New C_Old C_Pair C_Plain C_Rooms C_Thing) 1 "words_cell" f_words_cell 1 := ⟨_, _, _, ok'words_cell, PySem.W.mg_of X Gn g_words_cell, k_words_cell, b'words_cell⟩
  have X_Thing_words : FnC l.prog w K mg base (ga C_Fence C_Marking C_Memory C_New C_Old C_Pair C_Plain C_Rooms C_Thing) 1 .Thing "words" f_Thing_words 1 := ⟨_, _, _, ok'Thing_words, ⟨f_Thing_words', i_Thing_words, k_Thing_words⟩, b'Thing_words, rfl⟩
  have X_Plain_words : FnC l.prog w K mg base (ga C_Fence C_Marking C_Memory C_New C_Old C_Pair C_Plain C_Rooms C_Thing) 1 .Plain "words" f_Plain_words 1 := ⟨_, _, _, ok'Plain_words, ⟨f_Plain_words', i_Plain_words, k_Plain_words⟩, b'Plain_words, rfl⟩
  have X_Pair_words : FnC l.prog w K mg base (ga C_Fence C_Marking C_Memory C_New C_Old C_Pair C_Plain C_Rooms C_Thing) 1 .Pair "words" f_Thing_words 1 := ⟨_, _, _, ok'Thing_words, ⟨f_Pair_words', i_Thing_words, k_Thing_words⟩, b'Thing_words, rfl⟩
  have X_Thing_fields : FnC l.prog w K mg base (ga C_Fence C_Marking C_Memory C_New C_Old C_Pair C_Plain C_Rooms C_Thing) 1 .Thing "fields" f_Thing_fields 1 := ⟨_, _, _, ok'Thing_fields, ⟨f_Thing_fields', i_Thing_fields, k_Thing_fields⟩, b'Thing_fields, rfl⟩
  have X_Plain_fields : FnC l.prog w K mg base (ga C_Fence C_Marking C_Memory C_New C_Old C_Pair C_Plain C_Rooms C_Thing) 1 .Plain "fields" f_Thing_fields 1 := ⟨_, _, _, ok'Thing_fields, ⟨f_Plain_fields', i_Thing_fields, k_Thing_fields⟩, b'Thing_fields, rfl⟩
  have X_Pair_fields : FnC l.prog w K mg base (ga C_Fence C_Marking C_Memory C_New C_Old C_Pair C_Plain C_Rooms C_Thing) 1 .Pair "fields" f_Thing_fields 1 := ⟨_, _, _, ok'Thing_fields, ⟨f_Pair_fields', i_Thing_fields, k_Thing_fields⟩, b'Thing_fields, rfl⟩
  have T_SORTS : GlT K mg "SORTS" c_SORTS := ⟨K_SORTS, _, nn_SORTS, slk_SORTS, PySem.W.mg_of X Gn aK_SORTS, lK_SORTS, by show 3 ≤ sizeLine; rw [sizeLine_eq]; decide, (.cons ⟨_, rfl⟩ (.cons ⟨_, rfl⟩ (.cons ⟨_, rfl⟩ .nil)))⟩
  have F_header : FnG l.prog w K mg base (ga C_Fence C_Marking C_Memory C_New C_Old C_Pair C_Plain C_Rooms C_Thing) 1 "header" f_header 4 := ⟨_, _, _, ok'header, PySem.W.mg_of X Gn g_header, k_header, b'header⟩
  have ok'laid := ok_laid (P := l.prog) (w := w) (base := base) F'laid g B X_Thing_sort_of X_Plain_sort_of X_Pair_sort_of F_words_cell X_Thing_words X_Plain_words X_Pair_words X_Thing_fields X_Plain_fields X_Pair_fields T_SORTS F_header
  have ok'Rooms_fill_in := ok_Rooms_fill_in (P := l.prog) (w := w) (base := base) F'Rooms_fill_in g B 
  have ok'Rooms_gap_in := ok_Rooms_gap_in (P := l.prog) (w := w) (base := base) F'Rooms_gap_in g B 
  have X_Rooms_gap_in : FnC l.prog w K mg base (ga C_Fence C_Marking C_Memory C_New C_Old C_Pair C_Plain C_Rooms C_Thing) 1 .Rooms "gap_in" f_Rooms_gap_in 3 := ⟨_, _, _, ok'Rooms_gap_in, ⟨f_Rooms_gap_in', i_Rooms_gap_in, k_Rooms_gap_in⟩, b'Rooms_gap_in, rfl⟩
  have ok'Rooms_gap := ok_Rooms_gap (P := l.prog) (w := w) (base := base) F'Rooms_gap g B X_Rooms_gap_in
  have F_laid : FnG l.prog w K mg base (ga C_Fence C_Marking C_Memory C_New C_Old C_Pair C_Plain C_Rooms C_Thing) 2 "laid" f_laid 3 := ⟨_, _, _, ok'laid, PySem.W.mg_of X Gn g_laid, k_laid, b'laid⟩
  have X_Rooms_gap : FnC l.prog w K mg base (ga C_Fence C_Marking C_Memory C_New C_Old C_Pair C_Plain C_Rooms C_Thing) 2 .Rooms "gap" f_Rooms_gap 2 := ⟨_, _, _, ok'Rooms_gap, ⟨f_Rooms_gap', i_Rooms_gap, k_Rooms_gap⟩, b'Rooms_gap, rfl⟩
  have X_Rooms_fill_in : FnC l.prog w K mg base (ga C_Fence C_Marking C_Memory C_New C_Old C_Pair C_Plain C_Rooms C_Thing) 1 .Rooms "fill_in" f_Rooms_fill_in 3 := ⟨_, _, _, ok'Rooms_fill_in, ⟨f_Rooms_fill_in', i_Rooms_fill_in, k_Rooms_fill_in⟩, b'Rooms_fill_in, rfl⟩
  have ok'Memory_put_in := ok_Memory_put_in (P := l.prog) (w := w) (base := base) F'Memory_put_in g B F_laid X_Rooms_gap X_Rooms_fill_in
  have X_Memory_put_in : FnC l.prog w K mg base (ga C_Fence C_Marking C_Memory C_New C_Old C_Pair C_Plain C_Rooms C_Thing) 3 .Memory "put_in" f_Memory_put_in 4 := ⟨_, _, _, ok'Memory_put_in, ⟨f_Memory_put_in', i_Memory_put_in, k_Memory_put_in⟩, b'Memory_put_in, rfl⟩
  have ok'law_made := ok_law_made (P := l.prog) (w := w) (base := base) F'law_made g B X_Memory_put_in
  have ok'Thing_init := ok_Thing_init (P := l.prog) (w := w) (base := base) F'Thing_init g B 
  have M_Pair : FnM l.prog w K mg base (ga C_Fence C_Marking C_Memory C_New C_Old C_Pair C_Plain C_Rooms C_Thing) 1 .Pair f_Thing_init 2 := ⟨_, _, _, ok'Thing_init, ⟨mk_Pair, f_Pair_init', i_Thing_init, kc_Pair⟩, PySem.W.mg_of X Gn aC_Pair, b'Thing_init, rfl⟩
  have ok'pair := ok_pair (P := l.prog) (w := w) (base := base) F'pair g B M_Pair
  have U_Thing___init__ : FnU l.prog w K mg base (ga C_Fence C_Marking C_Memory C_New C_Old C_Pair C_Plain C_Rooms C_Thing) 1 .Thing "__init__" f_Thing_init 2 := ⟨_, _, _, ok'Thing_init, ⟨rd_Thing, ga_Thing⟩, u_Thing_init, PySem.W.mg_of X Gn aC_Thing, k_Thing_init, b'Thing_init⟩
  have ok'Plain_init := ok_Plain_init (P := l.prog) (w := w) (base := base) F'Plain_init g B U_Thing___init__
  have M_Plain : FnM l.prog w K mg base (ga C_Fence C_Marking C_Memory C_New C_Old C_Pair C_Plain C_Rooms C_Thing) 2 .Plain f_Plain_init 3 := ⟨_, _, _, ok'Plain_init, ⟨mk_Plain, f_Plain_init', i_Plain_init, kc_Plain⟩, PySem.W.mg_of X Gn aC_Plain, b'Plain_init, rfl⟩
  have ok'plain := ok_plain (P := l.prog) (w := w) (base := base) F'plain g B M_Plain
  have M_Thing : FnM l.prog w K mg base (ga C_Fence C_Marking C_Memory C_New C_Old C_Pair C_Plain C_Rooms C_Thing) 1 .Thing f_Thing_init 2 := ⟨_, _, _, ok'Thing_init, ⟨mk_Thing, f_Thing_init', i_Thing_init, kc_Thing⟩, PySem.W.mg_of X Gn aC_Thing, b'Thing_init, rfl⟩
  have ok'weak := ok_weak (P := l.prog) (w := w) (base := base) F'weak g B M_Thing
  have F_law_made : FnG l.prog w K mg base (ga C_Fence C_Marking C_Memory C_New C_Old C_Pair C_Plain C_Rooms C_Thing) 4 "_law_made" f_law_made 5 := ⟨_, _, _, ok'law_made, PySem.W.mg_of X Gn g_law_made, k_law_made, b'law_made⟩
  have F_plain : FnG l.prog w K mg base (ga C_Fence C_Marking C_Memory C_New C_Old C_Pair C_Plain C_Rooms C_Thing) 4 "plain" f_plain 2 := ⟨_, _, _, ok'plain, PySem.W.mg_of X Gn g_plain, k_plain, b'plain⟩
  have F_pair : FnG l.prog w K mg base (ga C_Fence C_Marking C_Memory C_New C_Old C_Pair C_Plain C_Rooms C_Thing) 3 "pair" f_pair 2 := ⟨_, _, _, ok'pair, PySem.W.mg_of X Gn g_pair, k_pair, b'pair⟩
  have F_weak : FnG l.prog w K mg base (ga C_Fence C_Marking C_Memory C_New C_Old C_Pair C_Plain C_Rooms C_Thing) 3 "weak" f_weak 1 := ⟨_, _, _, ok'weak, PySem.W.mg_of X Gn g_weak, k_weak, b'weak⟩
  have ok'law_new := ok_law_new (P := l.prog) (w := w) (base := base) F'law_new g B F_law_made F_plain F_pair F_weak
  have ok'is_marked := ok_is_marked (P := l.prog) (w := w) (base := base) F'is_marked g B 
  have ok'Rooms_read := ok_Rooms_read (P := l.prog) (w := w) (base := base) F'Rooms_read g B 
  have F_is_marked : FnG l.prog w K mg base (ga C_Fence C_Marking C_Memory C_New C_Old C_Pair C_Plain C_Rooms C_Thing) 1 "is_marked" f_is_marked 1 := ⟨_, _, _, ok'is_marked, PySem.W.mg_of X Gn g_is_marked, k_is_marked, b'is_marked⟩
  have X_Rooms_read : FnC l.prog w K mg base (ga C_Fence C_Marking C_Memory C_New C_Old C_Pair C_Plain C_Rooms C_Thing) 1 .Rooms "read" f_Rooms_read 2 := ⟨_, _, _, ok'Rooms_read, ⟨f_Rooms_read', i_Rooms_read, k_Rooms_read⟩, b'Rooms_read, rfl⟩
  have ok'Memory_marked_at := ok_Memory_marked_at (P := l.prog) (w := w) (base := base) F'Memory_marked_at g B F_is_marked X_Rooms_read
  have ok'has_words := ok_has_words (P := l.prog) (w := w) (base := base) F'has_words g B 
  have ok'kind_in := ok_kind_in (P := l.prog) (w := w) (base := base) F'kind_in g B 
  have ok'size_in := ok_size_in (P := l.prog) (w := w) (base := base) F'size_in g B 
  have F_size_in : FnG l.prog w K mg base (ga C_Fence C_Marking C_Memory C_New C_Old C_Pair C_Plain C_Rooms C_Thing) 1 "size_in" f_size_in 1 := ⟨_, _, _, ok'size_in, PySem.W.mg_of X Gn g_size_in, k_size_in, b'size_in⟩
  have F_has_words : FnG l.prog w K mg base (ga C_Fence C_Marking C_Memory C_New C_Old C_Pair C_Plain C_Rooms C_Thing) 1 "has_words" f_has_words 1 := ⟨_, _, _, ok'has_words, PySem.W.mg_of X Gn g_has_words, k_has_words, b'has_words⟩
  have F_kind_in : FnG l.prog w K mg base (ga C_Fence C_Marking C_Memory C_New C_Old C_Pair C_Plain C_Rooms C_Thing) 1 "kind_in" f_kind_in 1 := ⟨_, _, _, ok'kind_in, PySem.W.mg_of X Gn g_kind_in, k_kind_in, b'kind_in⟩
  have ok'with_mark := ok_with_mark (P := l.prog) (w := w) (base := base) F'with_mark g B F_header F_size_in F_has_words F_kind_in
  have ok'Rooms_write := ok_Rooms_write (P := l.prog) (w := w) (base := base) F'Rooms_write g B 
  have X_Rooms_write : FnC l.prog w K mg base (ga C_Fence C_Marking C_Memory C_New C_Old C_Pair C_Plain C_Rooms C_Thing) 1 .Rooms "write" f_Rooms_write 3 := ⟨_, _, _, ok'Rooms_write, ⟨f_Rooms_write', i_Rooms_write, k_Rooms_write⟩, b'Rooms_write, rfl⟩
  have F_with_mark : FnG l.prog w K mg base (ga C_Fence C_Marking C_Memory C_New C_Old C_Pair C_Plain C_Rooms C_Thing) 2 "with_mark" f_with_mark 2 := ⟨_, _, _, ok'with_mark, PySem.W.mg_of X Gn g_with_mark, k_with_mark, b'with_mark⟩
  have ok'Memory_set_mark := ok_Memory_set_mark (P := l.prog) (w := w) (base := base) F'Memory_set_mark g B X_Rooms_write F_with_mark X_Rooms_read
  have X_Memory_marked_at : FnC l.prog w K mg base (ga C_Fence C_Marking C_Memory C_New C_Old C_Pair C_Plain C_Rooms C_Thing) 2 .Memory "marked_at" f_Memory_marked_at 2 := ⟨_, _, _, ok'Memory_marked_at, ⟨f_Memory_marked_at', i_Memory_marked_at, k_Memory_marked_at⟩, b'Memory_marked_at, rfl⟩
  have X_Memory_set_mark : FnC l.prog w K mg base (ga C_Fence C_Marking C_Memory C_New C_Old C_Pair C_Plain C_Rooms C_Thing) 3 .Memory "set_mark" f_Memory_set_mark 3 := ⟨_, _, _, ok'Memory_set_mark, ⟨f_Memory_set_mark', i_Memory_set_mark, k_Memory_set_mark⟩, b'Memory_set_mark, rfl⟩
  have ok'Marking_shade := ok_Marking_shade (P := l.prog) (w := w) (base := base) F'Marking_shade g B X_Memory_marked_at X_Memory_set_mark
  have ok'Memory_sort_at := ok_Memory_sort_at (P := l.prog) (w := w) (base := base) F'Memory_sort_at g B T_SORTS F_kind_in X_Rooms_read
  have X_Memory_sort_at : FnC l.prog w K mg base (ga C_Fence C_Marking C_Memory C_New C_Old C_Pair C_Plain C_Rooms C_Thing) 2 .Memory "sort_at" f_Memory_sort_at 2 := ⟨_, _, _, ok'Memory_sort_at, ⟨f_Memory_sort_at', i_Memory_sort_at, k_Memory_sort_at⟩, b'Memory_sort_at, rfl⟩
  have ok'Memory_first_field := ok_Memory_first_field (P := l.prog) (w := w) (base := base) F'Memory_first_field g B X_Memory_sort_at
  have X_Memory_first_field : FnC l.prog w K mg base (ga C_Fence C_Marking C_Memory C_New C_Old C_Pair C_Plain C_Rooms C_Thing) 3 .Memory "first_field" f_Memory_first_field 2 := ⟨_, _, _, ok'Memory_first_field, ⟨f_Memory_first_field', i_Memory_first_field, k_Memory_first_field⟩, b'Memory_first_field, rfl⟩
  have ok'Memory_set_field := ok_Memory_set_field (P := l.prog) (w := w) (base := base) F'Memory_set_field g B X_Rooms_write X_Memory_first_field
  have ok'is_thing := ok_is_thing (P := l.prog) (w := w) (base := base) F'is_thing g B 
  have F_is_thing : FnG l.prog w K mg base (ga C_Fence C_Marking C_Memory C_New C_Old C_Pair C_Plain C_Rooms C_Thing) 1 "is_thing" f_is_thing 1 := ⟨_, _, _, ok'is_thing, PySem.W.mg_of X Gn g_is_thing, k_is_thing, b'is_thing⟩
  have ok'named_by := ok_named_by (P := l.prog) (w := w) (base := base) F'named_by g B F_is_thing
  have F_named_by : FnG l.prog w K mg base (ga C_Fence C_Marking C_Memory C_New C_Old C_Pair C_Plain C_Rooms C_Thing) 2 "named_by" f_named_by 1 := ⟨_, _, _, ok'named_by, PySem.W.mg_of X Gn g_named_by, k_named_by, b'named_by⟩
  have ok'New_put_shades := ok_New_put_shades (P := l.prog) (w := w) (base := base) F'New_put_shades g B F_named_by
  have ok'Old_put_shades := ok_Old_put_shades (P := l.prog) (w := w) (base := base) F'Old_put_shades g B F_named_by
  have X_New_put_shades : FnC l.prog w K mg base (ga C_Fence C_Marking C_Memory C_New C_Old C_Pair C_Plain C_Rooms C_Thing) 3 .New "put_shades" f_New_put_shades 3 := ⟨_, _, _, ok'New_put_shades, ⟨f_New_put_shades', i_New_put_shades, k_New_put_shades⟩, b'New_put_shades, rfl⟩
  have X_Old_put_shades : FnC l.prog w K mg base (ga C_Fence C_Marking C_Memory C_New C_Old C_Pair C_Plain C_Rooms C_Thing) 3 .Old "put_shades" f_Old_put_shades 3 := ⟨_, _, _, ok'Old_put_shades, ⟨f_Old_put_shades', i_Old_put_shades, k_Old_put_shades⟩, b'Old_put_shades, rfl⟩
  have X_Marking_shade : FnC l.prog w K mg base (ga C_Fence C_Marking C_Memory C_New C_Old C_Pair C_Plain C_Rooms C_Thing) 4 .Marking "shade" f_Marking_shade 2 := ⟨_, _, _, ok'Marking_shade, ⟨f_Marking_shade', i_Marking_shade, k_Marking_shade⟩, b'Marking_shade, rfl⟩
  have X_Memory_set_field : FnC l.prog w K mg base (ga C_Fence C_Marking C_Memory C_New C_Old C_Pair C_Plain C_Rooms C_Thing) 4 .Memory "set_field" f_Memory_set_field 4 := ⟨_, _, _, ok'Memory_set_field, ⟨f_Memory_set_field', i_Memory_set_field, k_Memory_set_field⟩, b'Memory_set_field, rfl⟩
  have ok'law_put := ok_law_put (P := l.prog) (w := w) (base := base) F'law_put g B X_New_put_shades X_Old_put_shades X_Marking_shade X_Memory_set_field
  have ok'Fence_marks_new := ok_Fence_marks_new (P := l.prog) (w := w) (base := base) F'Fence_marks_new g B 
  have ok'Fence_shades_look := ok_Fence_shades_look (P := l.prog) (w := w) (base := base) F'Fence_shades_look g B 
  have ok'Marking_grey := ok_Marking_grey (P := l.prog) (w := w) (base := base) F'Marking_grey g B 
  have ok'made_of := ok_made_of (P := l.prog) (w := w) (base := base) F'made_of g B M_Plain M_Thing M_Pair
  have ok'Memory_size_at := ok_Memory_size_at (P := l.prog) (w := w) (base := base) F'Memory_size_at g B F_size_in X_Rooms_read
  have X_Memory_size_at : FnC l.prog w K mg base (ga C_Fence C_Marking C_Memory C_New C_Old C_Pair C_Plain C_Rooms C_Thing) 2 .Memory "size_at" f_Memory_size_at 2 := ⟨_, _, _, ok'Memory_size_at, ⟨f_Memory_size_at', i_Memory_size_at, k_Memory_size_at⟩, b'Memory_size_at, rfl⟩
  have F_made_of : FnG l.prog w K mg base (ga C_Fence C_Marking C_Memory C_New C_Old C_Pair C_Plain C_Rooms C_Thing) 4 "made_of" f_made_of 3 := ⟨_, _, _, ok'made_of, PySem.W.mg_of X Gn g_made_of, k_made_of, b'made_of⟩
  have ok'Memory_thing_at := ok_Memory_thing_at (P := l.prog) (w := w) (base := base) F'Memory_thing_at g B X_Memory_size_at X_Memory_first_field X_Rooms_read F_has_words F_made_of X_Memory_sort_at
  have ok'Plain_holds := ok_Plain_holds (P := l.prog) (w := w) (base := base) F'Plain_holds g B F_is_thing
  have ok'Thing_holds := ok_Thing_holds (P := l.prog) (w := w) (base := base) F'Thing_holds g B 
  have X_Thing_holds : FnC l.prog w K mg base (ga C_Fence C_Marking C_Memory C_New C_Old C_Pair C_Plain C_Rooms C_Thing) 1 .Thing "holds" f_Thing_holds 1 := ⟨_, _, _, ok'Thing_holds, ⟨f_Thing_holds', i_Thing_holds, k_Thing_holds⟩, b'Thing_holds, rfl⟩
  have X_Memory_thing_at : FnC l.prog w K mg base (ga C_Fence C_Marking C_Memory C_New C_Old C_Pair C_Plain C_Rooms C_Thing) 5 .Memory "thing_at" f_Memory_thing_at 2 := ⟨_, _, _, ok'Memory_thing_at, ⟨f_Memory_thing_at', i_Memory_thing_at, k_Memory_thing_at⟩, b'Memory_thing_at, rfl⟩
  have X_Plain_holds : FnC l.prog w K mg base (ga C_Fence C_Marking C_Memory C_New C_Old C_Pair C_Plain C_Rooms C_Thing) 2 .Plain "holds" f_Plain_holds 1 := ⟨_, _, _, ok'Plain_holds, ⟨f_Plain_holds', i_Plain_holds, k_Plain_holds⟩, b'Plain_holds, rfl⟩
  have X_Pair_holds : FnC l.prog w K mg base (ga C_Fence C_Marking C_Memory C_New C_Old C_Pair C_Plain C_Rooms C_Thing) 1 .Pair "holds" f_Thing_holds 1 := ⟨_, _, _, ok'Thing_holds, ⟨f_Pair_holds', i_Thing_holds, k_Thing_holds⟩, b'Thing_holds, rfl⟩
  have ok'Marking_step := ok_Marking_step (P := l.prog) (w := w) (base := base) F'Marking_step g B X_Thing_holds X_Memory_thing_at X_Plain_holds X_Pair_holds X_Marking_shade
  have ok'Old_marks_new := ok_Old_marks_new (P := l.prog) (w := w) (base := base) F'Old_marks_new g B 
  have ok'Old_shades_look := ok_Old_shades_look (P := l.prog) (w := w) (base := base) F'Old_shades_look g B 
  have F_law_new : FnG l.prog w K mg base (ga C_Fence C_Marking C_Memory C_New C_Old C_Pair C_Plain C_Rooms C_Thing) 5 "_law_new" f_law_new 3 := ⟨_, _, _, ok'law_new, PySem.W.mg_of X Gn g_law_new, k_law_new, b'law_new⟩
  have X_New_marks_new : FnC l.prog w K mg base (ga C_Fence C_Marking C_Memory C_New C_Old C_Pair C_Plain C_Rooms C_Thing) 1 .New "marks_new" f_Fence_marks_new 1 := ⟨_, _, _, ok'Fence_marks_new, ⟨f_New_marks_new', i_Fence_marks_new, k_Fence_marks_new⟩, b'Fence_marks_new, rfl⟩
  have X_Old_marks_new : FnC l.prog w K mg base (ga C_Fence C_Marking C_Memory C_New C_Old C_Pair C_Plain C_Rooms C_Thing) 1 .Old "marks_new" f_Old_marks_new 1 := ⟨_, _, _, ok'Old_marks_new, ⟨f_Old_marks_new', i_Old_marks_new, k_Old_marks_new⟩, b'Old_marks_new, rfl⟩
  have F_law_put : FnG l.prog w K mg base (ga C_Fence C_Marking C_Memory C_New C_Old C_Pair C_Plain C_Rooms C_Thing) 5 "_law_put" f_law_put 4 := ⟨_, _, _, ok'law_put, PySem.W.mg_of X Gn g_law_put, k_law_put, b'law_put⟩
  have F_law_brought : FnG l.prog w K mg base (ga C_Fence C_Marking C_Memory C_New C_Old C_Pair C_Plain C_Rooms C_Thing) 1 "_law_brought" f_law_brought 2 := ⟨_, _, _, ok'law_brought, PySem.W.mg_of X Gn g_law_brought, k_law_brought, b'law_brought⟩
  have X_New_shades_look : FnC l.prog w K mg base (ga C_Fence C_Marking C_Memory C_New C_Old C_Pair C_Plain C_Rooms C_Thing) 1 .New "shades_look" f_Fence_shades_look 1 := ⟨_, _, _, ok'Fence_shades_look, ⟨f_New_shades_look', i_Fence_shades_look, k_Fence_shades_look⟩, b'Fence_shades_look, rfl⟩
  have X_Old_shades_look : FnC l.prog w K mg base (ga C_Fence C_Marking C_Memory C_New C_Old C_Pair C_Plain C_Rooms C_Thing) 1 .Old "shades_look" f_Old_shades_look 1 := ⟨_, _, _, ok'Old_shades_look, ⟨f_Old_shades_look', i_Old_shades_look, k_Old_shades_look⟩, b'Old_shades_look, rfl⟩
  have F_law_give : FnG l.prog w K mg base (ga C_Fence C_Marking C_Memory C_New C_Old C_Pair C_Plain C_Rooms C_Thing) 1 "_law_give" f_law_give 3 := ⟨_, _, _, ok'law_give, PySem.W.mg_of X Gn g_law_give, k_law_give, b'law_give⟩
  have X_Marking_grey : FnC l.prog w K mg base (ga C_Fence C_Marking C_Memory C_New C_Old C_Pair C_Plain C_Rooms C_Thing) 1 .Marking "grey" f_Marking_grey 1 := ⟨_, _, _, ok'Marking_grey, ⟨f_Marking_grey', i_Marking_grey, k_Marking_grey⟩, b'Marking_grey, rfl⟩
  have X_Marking_step : FnC l.prog w K mg base (ga C_Fence C_Marking C_Memory C_New C_Old C_Pair C_Plain C_Rooms C_Thing) 6 .Marking "step" f_Marking_step 1 := ⟨_, _, _, ok'Marking_step, ⟨f_Marking_step', i_Marking_step, k_Marking_step⟩, b'Marking_step, rfl⟩
  have ok'law_deed := ok_law_deed (P := l.prog) (w := w) (base := base) F'law_deed g B F_law_new X_New_marks_new X_Old_marks_new F_law_put F_law_brought X_New_shades_look X_Old_shades_look X_Marking_shade F_law_give X_Marking_grey X_Marking_step
  have ok'law_closing := ok_law_closing (P := l.prog) (w := w) (base := base) F'law_closing g B 
  have F_law_closing : FnG l.prog w K mg base (ga C_Fence C_Marking C_Memory C_New C_Old C_Pair C_Plain C_Rooms C_Thing) 1 "_law_closing" f_law_closing 2 := ⟨_, _, _, ok'law_closing, PySem.W.mg_of X Gn g_law_closing, k_law_closing, b'law_closing⟩
  have ok'law_held := ok_law_held (P := l.prog) (w := w) (base := base) F'law_held g B F_law_closing X_Memory_marked_at
  have N_Old : FnN K mg (ga C_Fence C_Marking C_Memory C_New C_Old C_Pair C_Plain C_Rooms C_Thing) .Old := ⟨mk_Old, i0_Old, kc_Old, PySem.W.mg_of X Gn aC_Old, rfl⟩
  have N_New : FnN K mg (ga C_Fence C_Marking C_Memory C_New C_Old C_Pair C_Plain C_Rooms C_Thing) .New := ⟨mk_New, i0_New, kc_New, PySem.W.mg_of X Gn aC_New, rfl⟩
  have ok'fence_of := ok_fence_of (P := l.prog) (w := w) (base := base) F'fence_of g B N_Old N_New
  have ok'Marking_colour_of := ok_Marking_colour_of (P := l.prog) (w := w) (base := base) F'Marking_colour_of g B X_Memory_marked_at
  have ok'Marking_init := ok_Marking_init (P := l.prog) (w := w) (base := base) F'Marking_init g B 
  have ok'Rooms_init := ok_Rooms_init (P := l.prog) (w := w) (base := base) F'Rooms_init g B 
  have M_Rooms : FnM l.prog w K mg base (ga C_Fence C_Marking C_Memory C_New C_Old C_Pair C_Plain C_Rooms C_Thing) 1 .Rooms f_Rooms_init 3 := ⟨_, _, _, ok'Rooms_init, ⟨mk_Rooms, f_Rooms_init', i_Rooms_init, kc_Rooms⟩, PySem.W.mg_of X Gn aC_Rooms, b'Rooms_init, rfl⟩
  have ok'Memory_init := ok_Memory_init (P := l.prog) (w := w) (base := base) F'Memory_init g B M_Rooms
  have F_law_cell_at : FnG l.prog w K mg base (ga C_Fence C_Marking C_Memory C_New C_Old C_Pair C_Plain C_Rooms C_Thing) 1 "_law_cell_at" f_law_cell_at 2 := ⟨_, _, _, ok'law_cell_at, PySem.W.mg_of X Gn g_law_cell_at, k_law_cell_at, b'law_cell_at⟩
  have M_Memory : FnM l.prog w K mg base (ga C_Fence C_Marking C_Memory C_New C_Old C_Pair C_Plain C_Rooms C_Thing) 3 .Memory f_Memory_init 3 := ⟨_, _, _, ok'Memory_init, ⟨mk_Memory, f_Memory_init', i_Memory_init, kc_Memory⟩, PySem.W.mg_of X Gn aC_Memory, b'Memory_init, rfl⟩
  have F_fence_of : FnG l.prog w K mg base (ga C_Fence C_Marking C_Memory C_New C_Old C_Pair C_Plain C_Rooms C_Thing) 1 "fence_of" f_fence_of 1 := ⟨_, _, _, ok'fence_of, PySem.W.mg_of X Gn g_fence_of, k_fence_of, b'fence_of⟩
  have M_Marking : FnM l.prog w K mg base (ga C_Fence C_Marking C_Memory C_New C_Old C_Pair C_Plain C_Rooms C_Thing) 1 .Marking f_Marking_init 2 := ⟨_, _, _, ok'Marking_init, ⟨mk_Marking, f_Marking_init', i_Marking_init, kc_Marking⟩, PySem.W.mg_of X Gn aC_Marking, b'Marking_init, rfl⟩
  have F_law_deed : FnG l.prog w K mg base (ga C_Fence C_Marking C_Memory C_New C_Old C_Pair C_Plain C_Rooms C_Thing) 7 "_law_deed" f_law_deed 4 := ⟨_, _, _, ok'law_deed, PySem.W.mg_of X Gn g_law_deed, k_law_deed, b'law_deed⟩
  have F_law_cut : FnG l.prog w K mg base (ga C_Fence C_Marking C_Memory C_New C_Old C_Pair C_Plain C_Rooms C_Thing) 1 "_law_cut" f_law_cut 2 := ⟨_, _, _, ok'law_cut, PySem.W.mg_of X Gn g_law_cut, k_law_cut, b'law_cut⟩
  have F_law_cell_by : FnG l.prog w K mg base (ga C_Fence C_Marking C_Memory C_New C_Old C_Pair C_Plain C_Rooms C_Thing) 1 "_law_cell_by" f_law_cell_by 2 := ⟨_, _, _, ok'law_cell_by, PySem.W.mg_of X Gn g_law_cell_by, k_law_cell_by, b'law_cell_by⟩
  have X_Marking_colour_of : FnC l.prog w K mg base (ga C_Fence C_Marking C_Memory C_New C_Old C_Pair C_Plain C_Rooms C_Thing) 3 .Marking "colour_of" f_Marking_colour_of 2 := ⟨_, _, _, ok'Marking_colour_of, ⟨f_Marking_colour_of', i_Marking_colour_of, k_Marking_colour_of⟩, b'Marking_colour_of, rfl⟩
  have F_law_held : FnG l.prog w K mg base (ga C_Fence C_Marking C_Memory C_New C_Old C_Pair C_Plain C_Rooms C_Thing) 3 "_law_held" f_law_held 2 := ⟨_, _, _, ok'law_held, PySem.W.mg_of X Gn g_law_held, k_law_held, b'law_held⟩
  have ok'law := ok_law (P := l.prog) (w := w) (base := base) F'law g B F_law_cell_at M_Memory F_fence_of M_Marking X_Marking_shade F_law_deed F_law_cut F_law_cell_by X_Marking_colour_of F_law_held
  exact ok'law
theorem walk {l : PySem.W.OpenLaw} {q : Program} {loose : List Str} {XP : (Str → Option Value) → Heap → Prop} {YP : World → Heap → Prop} {d : DefRec} {K : Params → PySem.W.Frag} (hn : l.most = some 63) (hdf : d.params.defaults = [])
    (hlaw : ∀ ns : List Int, ns.length ≤ 63 → (∀ z ∈ ns, Builtin.Int.intBits z ≤ 1048576) → ∃ S', f_law [scr ns] [] = .ok (.bl true) S')
    (hY : ∀ (w : World) (h : Heap), YP w h → (K w.params).In h)
    (F : ∀ (w : World) (mg : Str → Option Value) (fa : Addr) (h : Heap), (K w.params).In h → h.Ns mainGlobals mg → mg d.name = some (.ref fa) →
      ∃ (fd : FuncData) (G : Ga), (∀ (s : Shared) (u : Value), BindsTo s fd ⟨[u], []⟩ [("_law_script", u)]) ∧ ∀ base : Heap, (K w.params).In base → base.Ns mainGlobals mg → FnOk l.prog w (K w.params) mg base (L2.CX l.prog w) 8 fa fd ["_law_script"] (SpM (K w.params) G f_law 1)) :
    PySem.W.WalkO q loose XP YP l.row.toRowW d [] (fun f vs => PySem.call f vs) :=
  L2.walk_ofB (n := 63) (k := 8) (x := "_law_script") (CX := fun w => L2.CX l.prog w) (sp := fun w vs H Q E => ∀ G : Ga, SpM (K w.params) G f_law 1 vs H Q E) hn (by decide) hdf ⟨rfl, by decide, by decide⟩ hY
    (fun w mg fa h h1 h2 h3 => let ⟨fd, G, a, b⟩ := F w mg fa h h1 h2 h3; ⟨fd, a, fun base h4 h5 => (b base h4 h5).imp fun _ _ _ _ z => z G⟩)
    (fun w H a ns hl hb hO hS G => sp_law hO hS (hlaw ns hl hb)) fun _ H s e s' ⟨_, _, _, _, _, _, _, _, _, _, _, _, z⟩ => z
end MP

set_option Elab.async false
set_option linter.all false
set_option maxRecDepth 100000
set_option maxHeartbeats 4000000
namespace MP
open PySem L2
local macro_rules | `(tactic| simp! only [$xs,*]) => `(tactic| simp -implicitDefEqProofs only [r_var, kVar_ok, r_c, r_op2, kOpA_ok, kOpA_exc, kOpB_ok, kOpB_exc, r_test, r_asB, r_and, r_or, r_not, kAnd_t, kAnd_f, kAnd_exc, kOr_t, kOr_f, kOr_exc, kNot_ok, kNot_exc, r_mand, r_mor, r_mnot, kMAnd_t, kMAnd_f, kMOr_t, kMOr_f, kMNot_ok, r_ife, kIfE_t, kIfE_f, kIfE_exc, r_anil, r_acons, kArg_ok, kArg_exc, kArgs_ok, kArgs_exc, r_tup, r_lst, r_fld, r_call, kCall_ok, kCall_exc, r_call0, noX_ok, r_meth, kM1_ok, kM1_exc, kM2_ok, kM2_stuck, kM3_ok, kM3_exc, r_meth0, kN1_ok, kN1_exc, kN2_ok, kN2_stuck, r_make, kMake_ok, mkEnd_ok, r_cb, r_isi, r_bm, kBM1_ok, kBM2_ok, r_bm0, kBM0_ok, r_alt, kAlt_ok, kAlt_exc, kAlt_stuck, r_sl, kSl1_ok, kSl2_ok, kSl3_ok, r_ptN, r_ptS, optI_ok, r_nil, r_seq, kSeq_nx, kSeq_rt, kSeq_xc, kSeq_bk, kSeq_ct, r_clr, kClr_nx, kClr_rt, kClr_xc, kClr_bk, kClr_ct, clr_nil, clr_cons, r_set, kSet_ok, kSet_exc, r_expr, kExpr_ok, kExpr_exc, r_ret, kRet_ok, kRet_exc, r_retN, r_if, kSIf_t, kSIf_f, kSIf_exc, r_brk, r_cont, r_for, kItA_ok, kIt_some, r_itL, r_itT, r_itS, r_itR1, r_itR2, r_itEn, r_asg, kAsg_ok, sTgO_some, tgM_nm, setAllM_nil, setAllM_cons, r_aug, kAug1_ok, kAug2_ok, r_fs, kFS1_ok, kFS2_ok, nxO_some, r_sl1, kSL1_ok, kSL2_ok, kSL3_ok, r_fnB, kFn_nx, kFn_rt, kFn_xc, r_lc, kLc_ok, r_yes, r_tgtp, kTg_ok, r_lstO, lstO_vl, lstO_cl, lstO_vd, kLst_ok, kLst_d, r_lsmO, lsmO_vl, r_items, r_itemsT, items_vl, items_cl, items_vd, r_self, kSelf_ok, kSelf_no, self_vo, self_vo_no, ne_eq, reduceCtorEq, not_false_eq_true, r_isiR, kIsi_ok, r_ty, kTy_l, ty_int, ty_bl, ty_str, ty_tup, ty_non, ty_vl, ty_cl, ty_vd, ty_vo, r_getF, kGetF_ok, getF_vo, kLk_ok, lk_yes, lk_ne, r_setF, kSetF_ok, r_itLl, kItL_ok, itL_vl, itL_cl, itT_ok, enu_vl, enu_cl, isL_vl, isL_cl, r_isL, kIsL_ok, r_lApp, kApp_ok, r_lExt, kExt_ok, ixO_ok, r_getI, getI_vl, getI_cl, r_getIT, r_setI, kSetI_ok, kStO_ok, newL_t, newL_f, r_mEx, r_fnZ1, r_fnZ2, r_scp, r_makeN, exit_ok, cld_app', cld_self', cld_nil, cld_set, cld_set0, low_lst, low_dct, low_ins, lowAll_nil, lowAll_cons, low_loc, low_pure, exK_none, exK_some, exO_some, ite_f, ite_t, take_app, take_self, fz_pure, pure_non, pure_bl, pure_int, pure_str, pure_vl, pure_cl, pure_vd, pure_vo, pure_tup, pure_loc, pureAll_nil, pureAll_cons, Bool.and_true, Bool.true_and, Bool.and_self, fz_loc, fz_old, Nat.le_refl, Nat.le_add_right, optAll_nil, optAll_pure, kFz_lst, kFz_ins, kFz_dct, r_keep, kKp_l, kKp_d, scp_nx, scp_ct, scp_rt, scp_xc, scpE_some, kCn_ok, fzr_nil, fzr_none, fzr_some, kSm_ok, lstD_ok, tupD_ok, Nat.reduceLeDiff, add_vv, add_vl, add_lv, add_ll, add_vc, add_cv, add_cl, add_lc, r_repD, kRD_ok, kRD2_ok, cList_vl, cList_cl, cList_tup, cList_loc, liL_ok, r_len, kLen_ok, kLen_d, len_tup, len_vl, len_cl, r_sl4, sl_vl, sl_cl, slO_ok, for_fix, for_lst, forX_nil, kFX_nx, kFY_nx, kFY_ct, kFY_bk, kFY_rt, kFY_xc, add_int, sub_int, addI_int, lt_int, le_int, gt_int, ge_int, eq_int, ne_int, eq_str, ne_str, eq_bl, ne_bl, is_non, isNot_non, isN_non, isN_int, isN_tup, isN_str, isN_loc, isN_bl, isN_vl, isN_vo, cInt_int, cInt_bl, cAbs_int, band_int, bor_int, at_0', at_1', at_2', at_3', at_4', at_5', at_6', at_7', at_8', at_9', at_10', at_11', at_12', at_13', r_dct, r_dctO, dctO_vd, dctO_vl, kDc_ok, kDc_l, r_dGet, key_i, key_s, lkO_ok, lkO_no, ixO_no, kSetI_d, nxO_none, r_dPutI, r_dPutS, kDP_ok, r_sdp, kSD1_ok, kSD2_ok, kSD3_ok, r_salt, kSAlt_nx, kSAlt_stuck, r_talt, kTAlt_ok, kTAlt_stuck, r_dIn, inO_in, inO_notin, inO_no, r_sort, r_listU, listO_l, listO_d, r_tix, r_lClear, kClear_ok, r_while, r_dpop, kDPop1_ok, kDPop2_i, kDPop3_ok, r_dctU, dctU_vd, kDU_ok, r_de, deO_ok, Option.isSome_some, List.isEmpty_nil, List.isEmpty_cons, Res.bind_ok, Res.bind_exc, Res.bind_stuck, List.map_cons, List.map_nil, List.length_cons, List.length_nil, List.replicate_succ, List.replicate_zero, List.cons_append, List.nil_append, List.append_nil, List.set_cons_succ, List.set_cons_zero, List.getElem?_cons_succ, List.getElem?_cons_zero, List.zip_cons_cons, List.zip_nil_left, List.take_succ_cons, List.take_zero, rg1, rg2, rg1n, rg2n, rngL_len, enuL_len, r_lcv, kLV_fix, kLV_lst, Int.reduceLE, Int.reduceLT, Int.reducePow, Int.reduceToNat, Nat.reduceLT, Nat.lt_add_one, Int.reduceAdd, Int.reduceSub, Int.reduceMul, Int.reduceNeg, Nat.reduceMul, Int.toNat_natCast, Nat.reduceAdd, Nat.reduceSub, Nat.zero_add, Nat.sub_self, Bool.not_true, Bool.not_false, eq_self_iff_true, if_true, if_false, kIso_no, kIso_vo, isoF_hit, isoF_miss, r_iso, r_isoR, forX_cons, r_eqL, r_eqR, r_neL, r_neR, kEqL_ok, kEqR_ok, kNeL_ok, kNeR_ok, ofS_inj, String.reduceEq, decide_true, decide_false, dat_ofS, dat_non, dat_int, dat_tup, dat_vl, datAll_nil, datAll_cons, dep_non, dep_int, dep_str, dep_tup, dep_vl, depAll_nil, depAll_cons, Nat.max_self, Nat.zero_max, Nat.max_zero, neR_refl, eqR_refl, it_NoneType_bool, it_NoneType_str, it_NoneType_int, it_NoneType_tuple, it_NoneType_list, it_NoneType_dict, it_bool_bool, it_bool_str, it_bool_int, it_bool_tuple, it_bool_list, it_bool_dict, it_int_bool, it_int_str, it_int_int, it_int_tuple, it_int_list, it_int_dict, it_str_bool, it_str_str, it_str_int, it_str_tuple, it_str_list, it_str_dict, it_tuple_bool, it_tuple_str, it_tuple_int, it_tuple_tuple, it_tuple_list, it_tuple_dict, it_list_bool, it_list_str, it_list_int, it_list_tuple, it_list_list, it_list_dict, it_dict_bool, it_dict_str, it_dict_int, it_dict_tuple, it_dict_list, it_dict_dict, pureAll_ints, r_slk, kSLkA_ok, kSLkB_ok, r_mlk, kMLkA_ok, kMLkB_ok, r_unlN, r_unlR, r_unlE, kUnlN_ok, kUnlR_ok, kUnlE_ok, r_frz, r_frzD, kFrz_ok, r_itK, r_itV, r_itI, itK_l, itV_l, itI_l, kItK_ok, for_ky, for_va, for_ii, r_dget1, kG1A_ok, kG1B_ok, getO_ok, r_dget2, kG2A_ok, kG2B_ok, kG2C_ok, r_dpop2, kP2A_ok, kP2B_ok, kP2C_ok, popF_ok, r_cDict, dictO_t, dictO_f, stepN_nx, stepN_ct, stepR_nx, stepR_ct, stepR_rt, r_sortP, r_raise_, r_try, kTry_nx, kTry_rt, kTry_xc, r_hGo, r_hGo0, kHd_t, kHd_f, noXS_nx, noXS_rt, xlk_yes, xlk_no, r_eqSS, r_op1, neg_int, inS1f, inS1t, inS2f, inS2t, inS3f, inS3t, inS4f, inS4t, inS5f, inS5t, inS6f, inS6t, Bool.false_or, Bool.or_false, Bool.true_or, Bool.or_true, r_isB, r_isNotB, r_isBN, r_isNotBN, beq_self_eq_true, r_rev, r_lr1, r_lr2, r_slT, kSlTA_ok, kSlTB_ok, kSlTC_ok, slT_ok, $xs,*])
local macro_rules | `(tactic| dsimp! only [$xs,*]) => `(tactic| simp -implicitDefEqProofs only [r_var, kVar_ok, r_c, r_op2, kOpA_ok, kOpA_exc, kOpB_ok, kOpB_exc, r_test, r_asB, r_and, r_or, r_not, kAnd_t, kAnd_f, kAnd_exc, kOr_t, kOr_f, kOr_exc, kNot_ok, kNot_exc, r_mand, r_mor, r_mnot, kMAnd_t, kMAnd_f, kMOr_t, kMOr_f, kMNot_ok, r_ife, kIfE_t, kIfE_f, kIfE_exc, r_anil, r_acons, kArg_ok, kArg_exc, kArgs_ok, kArgs_exc, r_tup, r_lst, r_fld, r_call, kCall_ok, kCall_exc, r_call0, noX_ok, r_meth, kM1_ok, kM1_exc, kM2_ok, kM2_stuck, kM3_ok, kM3_exc, r_meth0, kN1_ok, kN1_exc, kN2_ok, kN2_stuck, r_make, kMake_ok, mkEnd_ok, r_cb, r_isi, r_bm, kBM1_ok, kBM2_ok, r_bm0, kBM0_ok, r_alt, kAlt_ok, kAlt_exc, kAlt_stuck, r_sl, kSl1_ok, kSl2_ok, kSl3_ok, r_ptN, r_ptS, optI_ok, r_nil, r_seq, kSeq_nx, kSeq_rt, kSeq_xc, kSeq_bk, kSeq_ct, r_clr, kClr_nx, kClr_rt, kClr_xc, kClr_bk, kClr_ct, clr_nil, clr_cons, r_set, kSet_ok, kSet_exc, r_expr, kExpr_ok, kExpr_exc, r_ret, kRet_ok, kRet_exc, r_retN, r_if, kSIf_t, kSIf_f, kSIf_exc, r_brk, r_cont, r_for, kItA_ok, kIt_some, r_itL, r_itT, r_itS, r_itR1, r_itR2, r_itEn, r_asg, kAsg_ok, sTgO_some, tgM_nm, setAllM_nil, setAllM_cons, r_aug, kAug1_ok, kAug2_ok, r_fs, kFS1_ok, kFS2_ok, nxO_some, r_sl1, kSL1_ok, kSL2_ok, kSL3_ok, r_fnB, kFn_nx, kFn_rt, kFn_xc, r_lc, kLc_ok, r_yes, r_tgtp, kTg_ok, r_lstO, lstO_vl, lstO_cl, lstO_vd, kLst_ok, kLst_d, r_lsmO, lsmO_vl, r_items, r_itemsT, items_vl, items_cl, items_vd, r_self, kSelf_ok, kSelf_no, self_vo, self_vo_no, ne_eq, reduceCtorEq, not_false_eq_true, r_isiR, kIsi_ok, r_ty, kTy_l, ty_int, ty_bl, ty_str, ty_tup, ty_non, ty_vl, ty_cl, ty_vd, ty_vo, r_getF, kGetF_ok, getF_vo, kLk_ok, lk_yes, lk_ne, r_setF, kSetF_ok, r_itLl, kItL_ok, itL_vl, itL_cl, itT_ok, enu_vl, enu_cl, isL_vl, isL_cl, r_isL, kIsL_ok, r_lApp, kApp_ok, r_lExt, kExt_ok, ixO_ok, r_getI, getI_vl, getI_cl, r_getIT, r_setI, kSetI_ok, kStO_ok, newL_t, newL_f, r_mEx, r_fnZ1, r_fnZ2, r_scp, r_makeN, exit_ok, cld_app', cld_self', cld_nil, cld_set, cld_set0, low_lst, low_dct, low_ins, lowAll_nil, lowAll_cons, low_loc, low_pure, exK_none, exK_some, exO_some, ite_f, ite_t, take_app, take_self, fz_pure, pure_non, pure_bl, pure_int, pure_str, pure_vl, pure_cl, pure_vd, pure_vo, pure_tup, pure_loc, pureAll_nil, pureAll_cons, Bool.and_true, Bool.true_and, Bool.and_self, fz_loc, fz_old, Nat.le_refl, Nat.le_add_right, optAll_nil, optAll_pure, kFz_lst, kFz_ins, kFz_dct, r_keep, kKp_l, kKp_d, scp_nx, scp_ct, scp_rt, scp_xc, scpE_some, kCn_ok, fzr_nil, fzr_none, fzr_some, kSm_ok, lstD_ok, tupD_ok, Nat.reduceLeDiff, add_vv, add_vl, add_lv, add_ll, add_vc, add_cv, add_cl, add_lc, r_repD, kRD_ok, kRD2_ok, cList_vl, cList_cl, cList_tup, cList_loc, liL_ok, r_len, kLen_ok, kLen_d, len_tup, len_vl, len_cl, r_sl4, sl_vl, sl_cl, slO_ok, for_fix, for_lst, forX_nil, kFX_nx, kFY_nx, kFY_ct, kFY_bk, kFY_rt, kFY_xc, add_int, sub_int, addI_int, lt_int, le_int, gt_int, ge_int, eq_int, ne_int, eq_str, ne_str, eq_bl, ne_bl, is_non, isNot_non, isN_non, isN_int, isN_tup, isN_str, isN_loc, isN_bl, isN_vl, isN_vo, cInt_int, cInt_bl, cAbs_int, band_int, bor_int, at_0', at_1', at_2', at_3', at_4', at_5', at_6', at_7', at_8', at_9', at_10', at_11', at_12', at_13', r_dct, r_dctO, dctO_vd, dctO_vl, kDc_ok, kDc_l, r_dGet, key_i, key_s, lkO_ok, lkO_no, ixO_no, kSetI_d, nxO_none, r_dPutI, r_dPutS, kDP_ok, r_sdp, kSD1_ok, kSD2_ok, kSD3_ok, r_salt, kSAlt_nx, kSAlt_stuck, r_talt, kTAlt_ok, kTAlt_stuck, r_dIn, inO_in, inO_notin, inO_no, r_sort, r_listU, listO_l, listO_d, r_tix, r_lClear, kClear_ok, r_while, r_dpop, kDPop1_ok, kDPop2_i, kDPop3_ok, r_dctU, dctU_vd, kDU_ok, r_de, deO_ok, Option.isSome_some, List.isEmpty_nil, List.isEmpty_cons, Res.bind_ok, Res.bind_exc, Res.bind_stuck, List.map_cons, List.map_nil, List.length_cons, List.length_nil, List.replicate_succ, List.replicate_zero, List.cons_append, List.nil_append, List.append_nil, List.set_cons_succ, List.set_cons_zero, List.getElem?_cons_succ, List.getElem?_cons_zero, List.zip_cons_cons, List.zip_nil_left, List.take_succ_cons, List.take_zero, rg1, rg2, rg1n, rg2n, rngL_len, enuL_len, r_lcv, kLV_fix, kLV_lst, Int.reduceLE, Int.reduceLT, Int.reducePow, Int.reduceToNat, Nat.reduceLT, Nat.lt_add_one, Int.reduceAdd, Int.reduceSub, Int.reduceMul, Int.reduceNeg, Nat.reduceMul, Int.toNat_natCast, Nat.reduceAdd, Nat.reduceSub, Nat.zero_add, Nat.sub_self, Bool.not_true, Bool.not_false, eq_self_iff_true, if_true, if_false, kIso_no, kIso_vo, isoF_hit, isoF_miss, r_iso, r_isoR, forX_cons, r_eqL, r_eqR, r_neL, r_neR, kEqL_ok, kEqR_ok, kNeL_ok, kNeR_ok, ofS_inj, String.reduceEq, decide_true, decide_false, dat_ofS, dat_non, dat_int, dat_tup, dat_vl, datAll_nil, datAll_cons, dep_non, dep_int, dep_str, dep_tup, dep_vl, depAll_nil, depAll_cons, Nat.max_self, Nat.zero_max, Nat.max_zero, neR_refl, eqR_refl, it_NoneType_bool, it_NoneType_str, it_NoneType_int, it_NoneType_tuple, it_NoneType_list, it_NoneType_dict, it_bool_bool, it_bool_str, it_bool_int, it_bool_tuple, it_bool_list, it_bool_dict, it_int_bool, it_int_str, it_int_int, it_int_tuple, it_int_list, it_int_dict, it_str_bool, it_str_str, it_str_int, it_str_tuple, it_str_list, it_str_dict, it_tuple_bool, it_tuple_str, it_tuple_int, it_tuple_tuple, it_tuple_list, it_tuple_dict, it_list_bool, it_list_str, it_list_int, it_list_tuple, it_list_list, it_list_dict, it_dict_bool, it_dict_str, it_dict_int, it_dict_tuple, it_dict_list, it_dict_dict, pureAll_ints, r_slk, kSLkA_ok, kSLkB_ok, r_mlk, kMLkA_ok, kMLkB_ok, r_unlN, r_unlR, r_unlE, kUnlN_ok, kUnlR_ok, kUnlE_ok, r_frz, r_frzD, kFrz_ok, r_itK, r_itV, r_itI, itK_l, itV_l, itI_l, kItK_ok, for_ky, for_va, for_ii, r_dget1, kG1A_ok, kG1B_ok, getO_ok, r_dget2, kG2A_ok, kG2B_ok, kG2C_ok, r_dpop2, kP2A_ok, kP2B_ok, kP2C_ok, popF_ok, r_cDict, dictO_t, dictO_f, stepN_nx, stepN_ct, stepR_nx, stepR_ct, stepR_rt, r_sortP, r_raise_, r_try, kTry_nx, kTry_rt, kTry_xc, r_hGo, r_hGo0, kHd_t, kHd_f, noXS_nx, noXS_rt, xlk_yes, xlk_no, r_eqSS, r_op1, neg_int, inS1f, inS1t, inS2f, inS2t, inS3f, inS3t, inS4f, inS4t, inS5f, inS5t, inS6f, inS6t, Bool.false_or, Bool.or_false, Bool.true_or, Bool.or_true, r_isB, r_isNotB, r_isBN, r_isNotBN, beq_self_eq_true, r_rev, r_lr1, r_lr2, r_slT, kSlTA_ok, kSlTB_ok, kSlTC_ok, slT_ok, List.append_assoc, at_z, at_k, set_z, set_k, List.length_append, Nat.add_assoc, putFl, $xs,*])
/-! ### cells, rooms: plain -/
theorem isN_iff {x : D} : D.isN x = true ↔ x = .non := by
  cases x <;> simp [D.isN]
def dO : Option Nat → D
  | some p => .int p
  | none => .non
/-- ys stands in xs from p on -/
def Seg (xs : List D) (p : Nat) (ys : List D) : Prop := ∀ i, i < ys.length → xs[p + i]? = ys[i]?
theorem Seg.lt {xs ys : List D} {p : Nat} (h : Seg xs p ys) (h0 : 0 < ys.length) : p + ys.length ≤ xs.length := by
  have := h (ys.length - 1) (by omega)
  rw [List.getElem?_eq_getElem (show ys.length - 1 < ys.length by omega)] at this
  have := (List.getElem?_eq_some_iff.mp this).1
  omega
theorem Seg.at {xs ys : List D} {p i : Nat} {x : D} (h : Seg xs p ys) (e : ys[i]? = some x) : xs[p + i]? = some x := by
  rw [h i (List.getElem?_eq_some_iff.mp e).1, e]
def fillL (xs : List D) (p : Nat) : List D → List D
  | [] => xs
  | v :: vs => fillL (xs.set p v) (p + 1) vs
theorem fillL_len : ∀ {vs xs : List D} {p : Nat}, (fillL xs p vs).length = xs.length
  | [], _, _ => rfl
  | v :: vs, xs, p => by rw [fillL, fillL_len, List.length_set]
theorem fillL_out : ∀ {vs xs : List D} {p q : Nat}, q < p ∨ p + vs.length ≤ q → (fillL xs p vs)[q]? = xs[q]?
  | [], _, _, _, _ => rfl
  | v :: vs, xs, p, q, h => by
    rw [List.length_cons] at h
    rw [fillL, fillL_out (by omega), List.getElem?_set_ne (by omega)]
theorem fillL_in : ∀ {vs xs : List D} {p : Nat}, p + vs.length ≤ xs.length → Seg (fillL xs p vs) p vs
  | [], _, _, _ => fun i h => by simp at h
  | v :: vs, xs, p, hl => fun i h => by
    rw [List.length_cons] at hl h
    rw [fillL]
    cases i with
    | zero => rw [fillL_out (by omega), Nat.add_zero, List.getElem?_set_self (by omega)]; rfl
    | succ i =>
      have := fillL_in (vs := vs) (xs := xs.set p v) (p := p + 1) (by rw [List.length_set]; omega) i (by omega)
      rw [show p + (i + 1) = p + 1 + i by omega, this, List.getElem?_cons_succ]
theorem fillL_snoc : ∀ {vs xs : List D} {p : Nat} {v : D}, fillL xs p (vs ++ [v]) = (fillL xs p vs).set (p + vs.length) v
  | [], xs, p, v => rfl
  | w :: vs, xs, p, v => by
    rw [List.cons_append, fillL, fillL_snoc, fillL, List.length_cons, show p + 1 + vs.length = p + (vs.length + 1) by omega]
theorem fillL_self : ∀ {vs xs : List D} {p : Nat}, Seg xs p vs → fillL xs p vs = xs
  | [], _, _, _ => rfl
  | v :: vs, xs, p, h => by
    have e := h 0 (by simp)
    rw [Nat.add_zero, List.getElem?_cons_zero] at e
    obtain ⟨hl, e2⟩ := List.getElem?_eq_some_iff.mp e
    rw [fillL, ← e2, List.set_getElem_self]
    exact fillL_self fun i hi => by
      have := h (i + 1) (by simpa using hi)
      rw [List.getElem?_cons_succ] at this
      rw [← this, show p + 1 + i = p + (i + 1) by omega]
theorem fillL_set {xs ys : List D} {p i : Nat} {v : D} (h : Seg xs p ys) (hi : i < ys.length) : fillL xs p (ys.set i v) = xs.set (p + i) v := by
  have hl := h.lt (by omega)
  apply List.ext_getElem?
  intro q
  by_cases hq : q < p ∨ p + (ys.set i v).length ≤ q
  · rw [fillL_out hq, List.getElem?_set_ne (by rw [List.length_set] at hq; omega)]
  · obtain ⟨k, rfl⟩ := Nat.exists_eq_add_of_le (show p ≤ q by omega)
    rw [List.length_set] at hq
    have := fillL_in (vs := ys.set i v) (xs := xs) (p := p) (by rw [List.length_set]; exact hl) k (by rw [List.length_set]; omega)
    rw [this]
    by_cases hk : i = k
    · subst hk
      rw [List.getElem?_set_self hi, List.getElem?_set_self (by omega)]
    · rw [List.getElem?_set_ne hk, List.getElem?_set_ne (by omega), h k (by omega)]
theorem pure_fill : ∀ {vs xs : List D} {p : Nat}, pureAll xs = true → pureAll vs = true → pureAll (fillL xs p vs) = true
  | [], _, _, h, _ => h
  | v :: vs, xs, p, h, h2 => by
    simp only [pureAll, Bool.and_eq_true] at h2
    rw [fillL]
    exact pure_fill (pureAll_mem.mpr fun x hx => by
      rcases List.mem_or_eq_of_mem_set hx with z | z
      · exact pureAll_mem.mp h x z
      · rw [z]; exact h2.1) h2.2
theorem pure_set {xs : List D} {p : Nat} {v : D} (h : pureAll xs = true) (h2 : v.pureB = true) : pureAll (xs.set p v) = true := pureAll_mem.mpr fun x hx => by
  rcases List.mem_or_eq_of_mem_set hx with z | z
  · exact pureAll_mem.mp h x z
  · rw [z]; exact h2
def nons (n : Nat) : List D := List.replicate n .non
theorem nons_len {n : Nat} : (nons n).length = n := List.length_replicate
theorem nons_succ {n : Nat} : nons (n + 1) = nons n ++ [.non] := List.replicate_succ'
theorem pure_nons {n : Nat} : pureAll (nons n) = true := pureAll_mem.mpr fun y hy => by rw [List.eq_of_mem_replicate hy]; rfl
theorem nons_get {n i : Nat} (h : i < n) : (nons n)[i]? = some .non := by unfold nons; rw [List.getElem?_replicate, if_pos h]
theorem reps_non {n : Nat} : reps n .non = nons n := rfl
def FreeRun (xs : List D) (p L : Nat) : Prop := ∀ q, p ≤ q → q < p + L → xs[q]? = some .non
def FitR (xs : List D) (cells room p L : Nat) : Prop := room * cells ≤ p ∧ p + L ≤ (room + 1) * cells ∧ FreeRun xs p L
def Fit (xs : List D) (many cells p L : Nat) : Prop := ∃ room, room < many ∧ FitR xs cells room p L
def GapIs (xs : List D) (many cells L : Nat) : Option Nat → Prop
  | some p => Fit xs many cells p L ∧ ∀ q, q < p → ¬ Fit xs many cells q L
  | none => ∀ q, ¬ Fit xs many cells q L
theorem GapIs.uniq {xs : List D} {many cells L : Nat} {a b : Option Nat} (h : GapIs xs many cells L a) (h2 : GapIs xs many cells L b) : a = b := by
  cases a with
  | none => cases b with
    | none => rfl
    | some q => exact absurd h2.1 (h q)
  | some p => cases b with
    | none => exact absurd h.1 (h2 p)
    | some q =>
      rcases Nat.lt_trichotomy p q with z | z | z
      · exact absurd h.1 (h2.2 p z)
      · rw [z]
      · exact absurd h2.1 (h.2 q z)
theorem gap_ex (xs : List D) (many cells L : Nat) : ∃ o, GapIs xs many cells L o := by
  by_cases h : ∃ p, Fit xs many cells p L
  · obtain ⟨p, hp⟩ := h
    have key : ∀ n, ∀ p, p ≤ n → Fit xs many cells p L → ∃ o, GapIs xs many cells L o := by
      intro n
      induction n with
      | zero => exact fun p hn hp => ⟨some p, hp, fun q hq => by omega⟩
      | succ n ih =>
        intro p hn hp
        by_cases h2 : ∃ q, q < p ∧ Fit xs many cells q L
        · obtain ⟨q, hq, hf⟩ := h2
          exact ih q (by omega) hf
        · exact ⟨some p, hp, fun q hq hf => h2 ⟨q, hq, hf⟩⟩
    exact key p p (Nat.le_refl _) hp
  · exact ⟨none, fun q hq => h ⟨q, hq⟩⟩
noncomputable def gapF (xs : List D) (many cells L : Nat) : Option Nat := (gap_ex xs many cells L).choose
theorem gapF_is (xs : List D) (many cells L : Nat) : GapIs xs many cells L (gapF xs many cells L) := (gap_ex xs many cells L).choose_spec
theorem gapF_eq {xs : List D} {many cells L : Nat} {o : Option Nat} (h : GapIs xs many cells L o) : gapF xs many cells L = o := (gapF_is xs many cells L).uniq h
theorem room_lt {many cells room : Nat} (h : room < many) : (room + 1) * cells ≤ many * cells := Nat.mul_le_mul_right _ h
theorem mul_nat {tr : Bool} {a b : Nat} (ha : a < 2 ^ 40) (hb : b < 2 ^ 40) (S : Sto) : mulD tr (.int (a : Int)) (.int (b : Int)) S = .ok (.int ((a * b : Nat) : Int)) S := by
  rw [mul_int (a := 40) (b := 40) (by simpa using ha) (by simpa using hb) (by decide), Int.natCast_mul]
/-! ### rooms in the store -/
structure RoomsAt (S : Sto) (r l : Nat) (many cells : Nat) (xs : List D) : Prop where
  obj : S[r]? = some (.ins .Rooms [(.many, .int many), (.cells, .int cells), (.inside, .loc l)])
  ins : S[l]? = some (.lst xs)
  len : xs.length = many * cells
  sm : many < 2 ^ 20
  sc : cells < 2 ^ 20
  sx : xs.length ≤ 100000
theorem RoomsAt.app {S T : Sto} {r l many cells : Nat} {xs : List D} (R : RoomsAt S r l many cells xs) : RoomsAt (S ++ T) r l many cells xs :=
  ⟨get_app R.obj, get_app R.ins, R.len, R.sm, R.sc, R.sx⟩
theorem RoomsAt.ne {S : Sto} {r l many cells : Nat} {xs : List D} (R : RoomsAt S r l many cells xs) : r ≠ l := by
  intro z
  have h1 := R.obj
  have h2 := R.ins
  rw [z, h2] at h1
  cases h1
theorem RoomsAt.upd {S : Sto} {r l many cells : Nat} {xs : List D} (R : RoomsAt S r l many cells xs) {ys : List D} (h : ys.length = xs.length) : RoomsAt (S.set l (.lst ys)) r l many cells ys :=
  ⟨set_get_ne R.obj R.ne.symm, set_get_self R.ins, by rw [h, R.len], R.sm, R.sc, by rw [h]; exact R.sx⟩
theorem ixN_lt {n j : Nat} (h : j < n) : ixN n (j : Int) = some j := by
  unfold ixN
  rw [if_pos (by omega), if_pos (by omega), Int.toNat_natCast]
/-! ### values of fields -/
def vNo : D := .tup [.str "nothing"]
def vNum (i : Int) : D := .tup [.str "number", .int i]
def vTh (i : Int) : D := .tup [.str "thing", .int i]
inductive IsVal : D → Prop
  | no : IsVal vNo
  | num (i : Int) : IsVal (vNum i)
  | th (i : Int) : IsVal (vTh i)
theorem lay_s1 : PyData.canLay0 (.str "nothing") = true := by simp only [PyData.canLay0]; decide +kernel
theorem lay_s2 : PyData.canLay0 (.str "number") = true := by simp only [PyData.canLay0]; decide +kernel
theorem lay_s3 : PyData.canLay0 (.str "thing") = true := by simp only [PyData.canLay0]; decide +kernel
theorem IsVal.dat {x : D} (h : IsVal x) : x.dat = true := by
  cases h <;> simp only [vNo, vNum, vTh, D.dat, datAll, lay_s1, lay_s2, lay_s3, Bool.and_self]
theorem IsVal.dep {x : D} (h : IsVal x) : x.dep = 1 := by cases h <;> simp [vNo, vNum, vTh, D.dep, depAll]
theorem IsVal.pu {x : D} (h : IsVal x) : x.pureB = true := dat_pure h.dat
def isTh (x : D) : Bool := match x with
  | .tup (.str s :: _) => decide (s = "thing")
  | _ => false
theorem s_nt : decide (("nothing" : Str) = "thing") = false := by decide +kernel
theorem s_mt : decide (("number" : Str) = "thing") = false := by decide +kernel
theorem s_tt : decide (("thing" : Str) = "thing") = true := by decide +kernel
theorem isTh_no : isTh vNo = false := s_nt
theorem isTh_num (i : Int) : isTh (vNum i) = false := s_mt
theorem isTh_th (i : Int) : isTh (vTh i) = true := s_tt
/-- what the value names -/
def nmOf (x : D) : List D := match x with
  | .tup [.str s, .int i] => if s = ("thing" : Str) then [.int i] else []
  | _ => []
theorem nm_no : nmOf vNo = [] := rfl
theorem nm_num (i : Int) : nmOf (vNum i) = [] := by
  unfold nmOf vNum
  exact if_neg (of_decide_eq_false s_mt)
theorem nm_th (i : Int) : nmOf (vTh i) = [.int i] := by
  unfold nmOf vTh
  exact if_pos rfl
theorem p60 : ∃ B : Int, 0 < B ∧ ∀ S, intOp powI (.int 10) (.int 60) S = .ok (.int B) S :=
  ⟨(10 : Int) ^ (60 : Int).toNat, by decide +kernel, fun S => pow_int ⟨by decide, by decide, by decide⟩⟩
def idx2 (x : D) : D := match x with
  | .tup [_, v] => v
  | _ => .non
/-! ### headers -/
def b01 (b : Bool) : Int := if b then 1 else 0
def hdr (kd : Int) (m w : Bool) (sz : Int) : Int := kd + 4 * b01 m + 8 * b01 w + 16 * sz
theorem hdr_parts {kd sz : Int} {m w : Bool} (h0 : 0 ≤ kd) (h1 : kd < 3) (h2 : 0 ≤ sz) : 0 ≤ hdr kd m w sz ∧ hdr kd m w sz % 4 = kd ∧ hdr kd m w sz / 16 = sz ∧ decide (hdr kd m w sz / 4 % 2 = 1) = m ∧ decide (hdr kd m w sz / 8 % 2 = 1) = w := by
  unfold hdr
  cases m <;> cases w <;> simp only [b01, if_true, if_false, Bool.false_eq_true, decide_eq_true_eq, decide_eq_false_iff_not] <;> omega
theorem hdr_bits (kd m w sz : Int) (hk0 : 0 ≤ kd) (hk : kd < 3) (hm0 : 0 ≤ m) (hm : m < 2) (hw0 : 0 ≤ w) (hw : w < 2) (hs : 0 ≤ sz) :
    Builtin.bitOr (Builtin.bitOr (Builtin.bitOr kd (m * 2 ^ 2)) (w * 2 ^ 3)) (sz * 2 ^ 4) = kd + 4 * m + 8 * w + 16 * sz := by
  rw [Bits.bitOr_join (k := 2) hk0 (by omega) hm0, Bits.bitOr_join (k := 3) (by omega) (by omega) hw0, Bits.bitOr_join (k := 4) (by omega) (by omega) hs]
  omega
/-! ### things -/
inductive Srt where
  | plain | weak | pair
deriving DecidableEq
def Srt.cl : Srt → Cl
  | .plain => .Plain
  | .weak => .Thing
  | .pair => .Pair
def Srt.kd : Srt → Int
  | .plain => 0
  | .weak => 1
  | .pair => 2
def Srt.nm : Srt → Str
  | .plain => "plain"
  | .weak => "weak"
  | .pair => "pair"
theorem kd_ok (s : Srt) : 0 ≤ s.kd ∧ s.kd < 3 := by cases s <;> decide
structure Th where
  s : Srt
  fs : List D
  w : Option Int
def wD (w : Option Int) : D := match w with
  | some i => .int i
  | none => .non
/-- the thing as a value -/
def Th.v (t : Th) : D := match t.s with
  | .plain => .vo .Plain [.row, .last_words] [.vl t.fs, wD t.w]
  | s => .vo s.cl [.row] [.vl t.fs]
structure Th.Ok (t : Th) : Prop where
  val : ∀ x ∈ t.fs, IsVal x
  len : t.fs.length ≤ 1000
  wk : t.s = .weak → t.fs.length = 1
  pr : t.s = .pair → t.fs.length = 2
  nw : t.s ≠ .plain → t.w = none
theorem Th.Ok.pu {t : Th} (h : t.Ok) : pureAll t.fs = true := pureAll_mem.mpr fun x hx => (h.val x hx).pu
theorem Th.Ok.da {t : Th} (h : t.Ok) : datAll t.fs = true := datAll_mem.mpr fun x hx => (h.val x hx).dat
theorem Th.Ok.de {t : Th} (h : t.Ok) : depAll t.fs ≤ 1 := depAll_le.mpr fun x hx => by rw [(h.val x hx).dep]; exact Nat.le_refl _
theorem wD_pu {w : Option Int} : (wD w).pureB = true := by cases w <;> rfl
theorem th_pure {t : Th} : t.v.pureB = true := by unfold Th.v; split <;> rfl
def wCell (w : Option Int) : D := match w with
  | some i => vNum i
  | none => vNo
theorem wCell_val (w : Option Int) : IsVal (wCell w) := by cases w <;> constructor
def Th.body (t : Th) (n : Int) : List D := .int n :: (if t.s = .plain then [wCell t.w] else []) ++ t.fs
def Th.size (t : Th) : Nat := (if t.s = .plain then 3 else 2) + t.fs.length
theorem body_len (t : Th) (n : Int) : (t.body n).length + 1 = t.size := by
  unfold Th.body Th.size
  split <;> simp <;> omega
def Th.hd (t : Th) (m : Bool) : D := .int (hdr t.s.kd m t.w.isSome t.size)
def Th.cells (t : Th) (n : Int) (m : Bool) : List D := t.hd m :: t.body n
theorem cells_len (t : Th) (n : Int) (m : Bool) : (t.cells n m).length = t.size := by
  unfold Th.cells
  rw [List.length_cons, body_len]
theorem size_pos (t : Th) : 2 ≤ t.size := by unfold Th.size; split <;> omega
theorem size_le {t : Th} (h : t.Ok) : t.size ≤ 1003 := by have := h.len; unfold Th.size; split <;> omega
theorem cells_pure {t : Th} (h : t.Ok) (n : Int) (m : Bool) : pureAll (t.cells n m) = true := by
  have := (wCell_val t.w).pu
  unfold Th.cells Th.body Th.hd
  split <;> simp only [List.cons_append, List.nil_append, pureAll, D.pureB, h.pu, this, Bool.and_self]
theorem header_spec {kd sz : Int} {m w : Bool} {S : Sto} (hk0 : 0 ≤ kd) (hk : kd < 3) (hs : 0 ≤ sz) (hn : sz < 2 ^ 40) :
    f_header [.int kd, .bl m, .bl w, .int sz] S = .ok (.int (hdr kd m w sz)) S := by
  have hz : sz.natAbs < 2 ^ 40 := abs_lt_pow hs hn
  have h1 := fun S => shl_int (S := S) (j := 4) (by decide) hz (by decide)
  have hb : ∀ b : Bool, (b01 b).natAbs < 2 ^ 1 ∧ 0 ≤ b01 b ∧ b01 b < 2 := by intro b; cases b <;> decide
  have h2 := fun S => shl_int (S := S) (j := 2) (by decide) (hb m).1 (by decide)
  have h3 := fun S => shl_int (S := S) (j := 3) (by decide) (hb w).1 (by decide)
  have ci : ∀ b S, cInt [.bl b] S = .ok (.int (b01 b)) S := fun _ _ => rfl
  unfold f_header b_header
  simp! only [ci, h1, h2, h3, - cInt_bl]
  have hz := hdr_bits kd _ _ sz hk0 hk (hb m).2.1 (hb m).2.2 (hb w).2.1 (hb w).2.2 hs
  simp only [Int.reducePow] at hz
  rw [hz]
  rfl
theorem size_spec {kd sz : Int} {m w : Bool} (h0 : 0 ≤ kd) (h1 : kd < 3) (h2 : 0 ≤ sz) (S : Sto) : f_size_in [.int (hdr kd m w sz)] S = .ok (.int sz) S := by
  unfold f_size_in b_size_in
  have h := hdr_parts (m := m) (w := w) h0 h1 h2
  simp! only [shr_int (show (0 : Int) ≤ 4 by decide), h.2.2.1]
theorem kind_spec {kd sz : Int} {m w : Bool} (h0 : 0 ≤ kd) (h1 : kd < 3) (h2 : 0 ≤ sz) (S : Sto) : f_kind_in [.int (hdr kd m w sz)] S = .ok (.int kd) S := by
  unfold f_kind_in b_kind_in
  simp! only []
  have h := hdr_parts (m := m) (w := w) h0 h1 h2
  have := Bits.bitAnd_mask 2 h.1
  rw [show (2 : Int) ^ 2 - 1 = 3 from rfl, show (2 : Int) ^ 2 = 4 from rfl] at this
  rw [this, h.2.1]
theorem mark_spec {kd sz : Int} {m w : Bool} (h0 : 0 ≤ kd) (h1 : kd < 3) (h2 : 0 ≤ sz) (S : Sto) : f_is_marked [.int (hdr kd m w sz)] S = .ok (.bl m) S := by
  unfold f_is_marked b_is_marked
  have h := hdr_parts (m := m) (w := w) h0 h1 h2
  have := Bits.bitAnd_mask 1 (show 0 ≤ hdr kd m w sz / 4 by have := h.1; omega)
  rw [show (2 : Int) ^ 1 - 1 = 1 from rfl, show (2 : Int) ^ 1 = 2 from rfl] at this
  simp! only [shr_int (show (0 : Int) ≤ 2 by decide), this, h.2.2.2.1]
theorem words_spec {kd sz : Int} {m w : Bool} (h0 : 0 ≤ kd) (h1 : kd < 3) (h2 : 0 ≤ sz) (S : Sto) : f_has_words [.int (hdr kd m w sz)] S = .ok (.bl w) S := by
  unfold f_has_words b_has_words
  have h := hdr_parts (m := m) (w := w) h0 h1 h2
  have := Bits.bitAnd_mask 1 (show 0 ≤ hdr kd m w sz / 8 by have := h.1; omega)
  rw [show (2 : Int) ^ 1 - 1 = 1 from rfl, show (2 : Int) ^ 1 = 2 from rfl] at this
  simp! only [shr_int (show (0 : Int) ≤ 3 by decide), this, h.2.2.2.2]
theorem with_mark_spec {kd sz : Int} (h0 : 0 ≤ kd) (h1 : kd < 3) (h2 : 0 ≤ sz) (h3 : sz < 2 ^ 40) (m w m' : Bool) (S : Sto) : f_with_mark [.int (hdr kd m w sz), .bl m'] S = .ok (.int (hdr kd m' w sz)) S := by
  unfold f_with_mark b_with_mark
  simp! only [kind_spec h0 h1 h2, words_spec h0 h1 h2, size_spec h0 h1 h2, header_spec h0 h1 h2 h3]
theorem thing_init_spec {S : Sto} {c : Cl} {l : Nat} {fs : List D} {x : D} (hc : okF c .row = true) (h : S[l]? = some (.ins c [])) (hx : items S x = some fs) (hp : pureAll fs = true) : f_Thing_init [.loc l, x] S = .ok .non (S.set l (.ins c [(.row, .vl fs)])) := by
  unfold f_Thing_init b_Thing_init
  simp! only [cList_ok hx, hx, hp, h, kSetF_ok, hc, putFl]
theorem plain_init_spec {S : Sto} {l : Nat} {fs : List D} {x w : D} (h : S[l]? = some (.ins .Plain [])) (hx : items S x = some fs) (hp : pureAll fs = true) : f_Plain_init [.loc l, x, w] S = .ok .non (S.set l (.ins .Plain [(.row, .vl fs), (.last_words, w)])) := by
  have o1 : okF .Plain .row = true := by decide
  have o2 : okF .Plain .last_words = true := by decide
  have hl := get_lt h
  unfold f_Plain_init b_Plain_init
  simp! only [thing_init_spec o1 h hx hp, List.getElem?_set_self hl, kSetF_ok, o2, putFl, List.set_set]
theorem plain_spec {S : Sto} {fs : List D} {x : D} {w : Option Int} (hx : items S x = some fs) (hp : pureAll fs = true) : f_plain [x, wD w] S = .ok (Th.v ⟨.plain, fs, w⟩) S := by
  have hx2 : items (S ++ [.ins .Plain []]) x = some fs := items_app hx
  have q := plain_init_spec (S := S ++ [.ins .Plain []]) (l := S.length) (w := wD w) (get_last _ _) hx2 hp
  unfold f_plain b_plain
  simp! only [q, set_last, get_last, List.map_cons, wD_pu, Th.v]
theorem weak_spec {S : Sto} {x : D} (hp : x.pureB = true) : f_weak [x] S = .ok (Th.v ⟨.weak, [x], none⟩) S := by
  have q := thing_init_spec (S := S ++ [.ins .Thing []]) (c := .Thing) (l := S.length) (x := .vl [x]) (fs := [x]) (by decide) (get_last _ _) rfl (by simp only [pureAll, hp, Bool.and_self])
  unfold f_weak b_weak
  simp! only [hp, q, set_last, get_last, Th.v, Srt.cl]
theorem pair_spec {S : Sto} {x y : D} (hp : x.pureB = true) (hq : y.pureB = true) : f_pair [x, y] S = .ok (Th.v ⟨.pair, [x, y], none⟩) S := by
  have q := thing_init_spec (S := S ++ [.ins .Pair []]) (c := .Pair) (l := S.length) (x := .vl [x, y]) (fs := [x, y]) (by decide) (get_last _ _) rfl (by simp only [pureAll, hp, hq, Bool.and_self])
  unfold f_pair b_pair
  simp! only [hp, hq, q, set_last, get_last, Th.v, Srt.cl]
theorem made_of_spec {S : Sto} {fs : List D} {s : Srt} {w : Option Int} (hp : pureAll fs = true) (hw : s ≠ .plain → w = none) : f_made_of [.str s.nm, .vl fs, wD w] S = .ok (Th.v ⟨s, fs, w⟩) S := by
  have q := plain_init_spec (S := S ++ [.ins .Plain []]) (l := S.length) (x := .vl fs) (w := wD w) (get_last _ _) rfl hp
  have q1 := thing_init_spec (S := S ++ [.ins .Thing []]) (c := .Thing) (l := S.length) (x := .vl fs) (by decide) (get_last _ _) rfl hp
  have q2 := thing_init_spec (S := S ++ [.ins .Pair []]) (c := .Pair) (l := S.length) (x := .vl fs) (by decide) (get_last _ _) rfl hp
  unfold f_made_of b_made_of
  cases s with
  | plain => simp! only [Srt.nm, q, set_last, get_last, wD_pu, Th.v]
  | weak => simp! only [Srt.nm, q1, set_last, get_last, hp, Th.v, Srt.cl]
  | pair => simp! only [Srt.nm, q2, set_last, get_last, hp, Th.v, Srt.cl]
theorem words_cell_spec {w : Option Int} (S : Sto) : f_words_cell [wD w] S = .ok (wCell w) S := by
  have e : (List.map D.str c_NOTHING) = [.str "nothing"] := rfl
  unfold f_words_cell b_words_cell
  cases w <;> simp! only [e, wD, wCell, vNo, vNum]
/-! what is asked of a thing, whatever its sort -/
theorem so_spec (t : Th) (S : Sto) : (t.s = .plain → f_Plain_sort_of [t.v] S = .ok (.str "plain") S) ∧ (t.s = .weak → f_Thing_sort_of [t.v] S = .ok (.str "weak") S) ∧ (t.s = .pair → f_Pair_sort_of [t.v] S = .ok (.str "pair") S) := by
  unfold f_Plain_sort_of f_Thing_sort_of f_Pair_sort_of b_Plain_sort_of b_Thing_sort_of b_Pair_sort_of
  refine ⟨fun _ => ?_, fun _ => ?_, fun _ => ?_⟩ <;> simp! only []
theorem ask_sort {t : Th} {m : MEx} {ρ : Rho} {S : Sto} (hm : m ρ S = .ok t.v S) :
    mAlt (mMeth0 .Thing f_Thing_sort_of m) (mAlt (mMeth0 .Plain f_Plain_sort_of m) (mMeth0 .Pair f_Pair_sort_of m)) ρ S = .ok (.str t.s.nm) S := by
  obtain ⟨h1, h2, h3⟩ := so_spec t S
  obtain ⟨s, fs, w⟩ := t
  cases s with
  | plain => simp only [Th.v] at hm h1; simp! only [hm, h1, Srt.nm]
  | weak => simp only [Th.v, Srt.cl] at hm h2; simp! only [hm, h2, Srt.nm]
  | pair => simp only [Th.v, Srt.cl] at hm h3; simp! only [hm, h3, Srt.nm]
theorem ask_words {t : Th} (ok : t.Ok) {m : MEx} {ρ : Rho} {S : Sto} (hm : m ρ S = .ok t.v S) :
    mAlt (mMeth0 .Thing f_Thing_words m) (mAlt (mMeth0 .Plain f_Plain_words m) (mMeth0 .Pair f_Thing_words m)) ρ S = .ok (wD t.w) S := by
  have nw := ok.nw
  clear ok
  obtain ⟨s, fs, w⟩ := t
  have h1 : ∀ x : D, f_Thing_words [x] S = .ok .non S := fun x => by
    unfold f_Thing_words b_Thing_words
    simp! only []
  have h2 : f_Plain_words [.vo .Plain [.row, .last_words] [.vl fs, wD w]] S = .ok (wD w) S := by
    unfold f_Plain_words b_Plain_words
    simp! only []
  cases s with
  | plain => simp only [Th.v] at hm; simp! only [hm, h2]
  | weak => simp only [Th.v, Srt.cl] at hm; rw [show w = none from nw (fun z => nomatch z)]; simp! only [hm, h1, wD]
  | pair => simp only [Th.v, Srt.cl] at hm; rw [show w = none from nw (fun z => nomatch z)]; simp! only [hm, h1, wD]
theorem ask_fields {t : Th} (ok : t.Ok) {m : MEx} {ρ : Rho} {S : Sto} (hm : m ρ S = .ok t.v S) :
    mAlt (mMeth0 .Thing f_Thing_fields m) (mAlt (mMeth0 .Plain f_Thing_fields m) (mMeth0 .Pair f_Thing_fields m)) ρ S = .ok (.vl t.fs) S := by
  have hp := ok.pu
  clear ok
  obtain ⟨s, fs, w⟩ := t
  have h1 : ∀ (c : Cl) (fl : List Fl) (xs : List D), f_Thing_fields [.vo c (.row :: fl) (.vl fs :: xs)] S = .ok (.vl fs) S := fun c fl xs => by
    unfold f_Thing_fields b_Thing_fields
    simp! only [hp]
  cases s with
  | plain => simp only [Th.v] at hm; simp! only [hm, h1]
  | weak => simp only [Th.v, Srt.cl] at hm; simp! only [hm, h1]
  | pair => simp only [Th.v, Srt.cl] at hm; simp! only [hm, h1]
theorem sorts_ix (s : Srt) : c_SORTS.findIdx? (fun y => decide (y = s.nm)) = some s.kd.toNat := by cases s <;> decide +kernel
theorem kd_nat (s : Srt) : ((s.kd.toNat : Nat) : Int) = s.kd := by cases s <;> rfl
theorem laid_spec {t : Th} (ok : t.Ok) (n : Int) (m : Bool) (S : Sto) : f_laid [t.v, .int n, .bl m] S = .ok (.vl (t.cells n m)) S := by
  have ll : (1 < sizeLine) = True := lt_line (by decide)
  have l2 : (1 + t.fs.length ≤ sizeLine) = True := le_line (by have := ok.len; omega)
  have l3 : (2 + t.fs.length ≤ sizeLine) = True := le_line (by have := ok.len; omega)
  have l4 : (1 + (t.body n).length ≤ sizeLine) = True := le_line (by have := size_le ok; have := body_len t n; omega)
  have hz : (t.size : Int) < 2 ^ 40 := by have := size_le ok; omega
  have hh := fun S => header_spec (m := m) (w := t.w.isSome) (S := S) (kd_ok t.s).1 (kd_ok t.s).2 (Int.natCast_nonneg t.size) hz
  have wn : (!(wD t.w).isN) = t.w.isSome := by cases t.w <;> rfl
  have hbl : (((t.body n).length : Nat) : Int) + 1 = (t.size : Int) := by rw [← body_len t n]; rfl
  have wp := (wCell_val t.w).pu
  have bp : pureAll (t.body n) = true := by
    have := cells_pure ok n m
    unfold Th.cells Th.hd at this
    simpa only [pureAll, D.pureB, Bool.true_and] using this
  have aS := fun (m : MEx) ρ S => ask_sort (t := t) (m := m) (ρ := ρ) (S := S)
  have aW := fun (m : MEx) ρ S => ask_words ok (m := m) (ρ := ρ) (S := S)
  have aF := fun (m : MEx) ρ S => ask_fields ok (m := m) (ρ := ρ) (S := S)
  have ix := fun S => tIndex_ok (S := S) (sorts_ix t.s)
  unfold f_laid b_laid
  cases hs : t.s with
  | plain =>
    have hb : t.body n = [.int n, wCell t.w] ++ t.fs := by unfold Th.body; rw [if_pos hs]
    simp only [hs, Srt.nm] at aS ix hh
    dsimp! only [aS, aW, aF, th_pure, words_cell_spec, Srt.nm, ll, lExt_ok, l3, ok.pu, wp, ← hb, ix, kd_nat, hh, wn, hbl, l4, catL_ok, bp, - r_alt, - r_mEx]
    simp only [Th.cells, Th.hd, hs]
  | weak =>
    have hb : t.body n = [.int n] ++ t.fs := by unfold Th.body; rw [if_neg (by simp [hs])]
    simp only [hs, Srt.nm] at aS ix hh
    dsimp! only [aS, aW, aF, th_pure, Srt.nm, ll, lExt_ok, l2, ok.pu, ← hb, ix, kd_nat, hh, wn, hbl, l4, catL_ok, bp, - r_alt, - r_mEx]
    simp only [Th.cells, Th.hd, hs]
  | pair =>
    have hb : t.body n = [.int n] ++ t.fs := by unfold Th.body; rw [if_neg (by simp [hs])]
    simp only [hs, Srt.nm] at aS ix hh
    dsimp! only [aS, aW, aF, th_pure, Srt.nm, ll, lExt_ok, l2, ok.pu, ← hb, ix, kd_nat, hh, wn, hbl, l4, catL_ok, bp, - r_alt, - r_mEx]
    simp only [Th.cells, Th.hd, hs]
theorem gap_in_spec {S : Sto} {r l many cells : Nat} {xs : List D} (R : RoomsAt S r l many cells xs) {room L : Nat} (hr : room < many) (hL : 1 ≤ L) :
    ∃ o : Option Nat, f_Rooms_gap_in [.loc r, .int room, .int L] S = .ok (dO o) S ∧ match o with
      | some p => FitR xs cells room p L ∧ ∀ q, q < p → ¬ FitR xs cells room q L
      | none => ∀ q, ¬ FitR xs cells room q L := by
  obtain ⟨base, hbase⟩ : ∃ b, b = room * cells := ⟨_, rfl⟩
  have hb2 : (room + 1) * cells = base + cells := by rw [hbase, Nat.succ_mul]
  have hle : base + cells ≤ xs.length := by rw [R.len, ← hb2]; exact room_lt hr
  have hbig := R.sx
  have m1 := fun S => mul_nat (tr := false) (a := room) (b := cells) (by have := R.sm; omega) (by have := R.sc; omega) S
  have m2 : ∀ S, mulD false (.int ((room : Int) + 1)) (.int (cells : Int)) S = .ok (.int ((base + cells : Nat) : Int)) S := fun S => by
    have := mul_nat (tr := false) (a := room + 1) (b := cells) (by have := R.sm; omega) (by have := R.sc; omega) S
    rw [hb2] at this
    exact this
  rw [← hbase] at m1
  have hr2 : itR2 [.int (base : Int), .int ((base + cells : Nat) : Int)] S = some ⟨fixGet (rngL (base : Int) cells), cells + 1⟩ := by
    rw [rg2n (by omega) (by omega), Nat.add_sub_cancel_left]
  have f1 : (Fl.many == Fl.cells) = false := by decide
  have f2 : (Fl.cells == Fl.many) = false := by decide
  have f3 : (Fl.inside == Fl.many) = false := by decide
  have f4 : (Fl.inside == Fl.cells) = false := by decide
  unfold f_Rooms_gap_in b_Rooms_gap_in
  simp! only [R.obj, lk_no f2, m1, m2, add_int, hr2]
  generalize hf : forX _ _ _ _ _ = res
  have hres : (∃ p : Nat, res = .rt (.int p) S ∧ FitR xs cells room p L ∧ ∀ q, q < p → ¬ FitR xs cells room q L) ∨ (∃ v, res = .nx [some (.loc r), some (.int room), some (.int L), v, none] S ∧ ∀ q, ¬ FitR xs cells room q L) := by
    refine forXI hf (fun i ρ S' => S' = S ∧ i ≤ cells ∧ ∃ f : Nat, f ≤ i ∧ f < L ∧ ρ = [some (.loc r), some (.int room), some (.int L), some (.int f), none] ∧ FreeRun xs (base + i - f) f ∧ (f = i ∨ xs[base + i - f - 1]? ≠ some .non) ∧ ∀ q, base ≤ q → q + L ≤ base + i → ¬ FreeRun xs q L)
      (fun res => (∃ p : Nat, res = .rt (.int p) S ∧ FitR xs cells room p L ∧ ∀ q, q < p → ¬ FitR xs cells room q L) ∨ (∃ v, res = .nx [some (.loc r), some (.int room), some (.int L), v, none] S ∧ ∀ q, ¬ FitR xs cells room q L)) 
      ⟨rfl, by omega, 0, by omega, by omega, rfl, fun q h1 h2 => by omega, .inl rfl, fun q h1 h2 => by omega⟩ ?_ ?_
    · rintro i x0 ρ S' e0 ⟨rfl, _, f, hfi, hfL, rfl, hrun, hlast, hno⟩
      have hi : i < cells := by
        have := (List.getElem?_eq_some_iff.mp e0).1
        rw [rngL_len] at this
        exact this
      rw [rngL_get hi] at e0
      cases e0
      refine ⟨_, rfl, ?_⟩
      obtain ⟨x, hx⟩ : ∃ x, xs[base + i]? = some x := ⟨_, List.getElem?_eq_getElem (by omega)⟩
      have gi : atI xs ((base : Int) + (i : Int)) = some x := by rw [← Int.natCast_add]; exact atI_nat hx
      simp! only [addI_int, R.obj, R.ins, lk_no f2, lk_no f3, lk_no f4, gi, isNot_non]
      cases hn : x.isN with
      | false =>
        have hxn : xs[base + i]? ≠ some .non := by
          rw [hx]; intro z; cases z; cases hn
        have d0 : decide ((0 : Int) = (L : Int)) = false := decide_eq_false (by omega)
        simp! only [eq_int, d0]
        refine ⟨rfl, by omega, 0, by omega, by omega, rfl, fun q h1 h2 => by omega, .inr ?_, ?_⟩
        · rw [show base + (i + 1) - 0 - 1 = base + i by omega]; exact hxn
        · intro q h1 h2 hq
          by_cases h3 : q + L ≤ base + i
          · exact hno q h1 h3 hq
          · exact hxn (hq (base + i) (by omega) (by omega))
      | true =>
        have hxn : xs[base + i]? = some .non := by rw [hx, isN_iff.mp hn]
        have run' : FreeRun xs (base + (i + 1) - (f + 1)) (f + 1) := by
          intro q h1 h2
          by_cases h3 : q = base + i
          · rw [h3]; exact hxn
          · exact hrun q (by omega) (by omega)
        by_cases hL2 : f + 1 = L
        · have d0 : decide ((f : Int) + 1 = (L : Int)) = true := decide_eq_true (by omega)
          simp! only [eq_int, d0, sub_int, add_int]
          refine .inl ⟨base + i + 1 - L, ?_, ⟨by omega, by omega, ?_⟩, ?_⟩
          · rw [show (base : Int) + (i : Int) - (L : Int) + 1 = ((base + i + 1 - L : Nat) : Int) by omega]
          · intro q h1 h2
            exact run' q (by omega) (by omega)
          · rintro q hq ⟨h1, h2, h3⟩
            exact hno q (by omega) (by omega) h3
        · have d0 : decide ((f : Int) + 1 = (L : Int)) = false := decide_eq_false (by omega)
          simp! only [eq_int, d0]
          refine ⟨rfl, by omega, f + 1, by omega, by omega, rfl, run', ?_, ?_⟩
          · rcases hlast with h | h
            · exact .inl (by omega)
            · right; rw [show base + (i + 1) - (f + 1) - 1 = base + i - f - 1 by omega]; exact h
          · intro q h1 h2 hq
            by_cases h3 : q + L ≤ base + i
            · exact hno q h1 h3 hq
            · rcases hlast with h | h
              · omega
              · exact h (hq (base + i - f - 1) (by omega) (by omega))
    · rintro ρ S' ⟨rfl, hcl, f, hfi, hfL, rfl, hrun, hlast, hno⟩
      rw [rngL_len] at hfi hlast hno hcl
      refine .inr ⟨_, rfl, ?_⟩
      rintro q ⟨h1, h2, h3⟩
      exact hno q (by omega) (by omega) h3
  rcases hres with ⟨p, rfl, h1, h2⟩ | ⟨v, rfl, h⟩
  · exact ⟨some p, by simp! only [dO], h1, h2⟩
  · exact ⟨none, by simp! only [dO], h⟩
theorem gap_spec {S : Sto} {r l many cells : Nat} {xs : List D} (R : RoomsAt S r l many cells xs) {L : Nat} (hL : 1 ≤ L) :
    ∃ o : Option Nat, f_Rooms_gap [.loc r, .int L] S = .ok (dO o) S ∧ GapIs xs many cells L o := by
  have hm62 : many < 2 ^ 62 := by have := R.sm; omega
  unfold f_Rooms_gap b_Rooms_gap
  simp! only [R.obj, hm62]
  generalize hf : forX _ _ _ _ _ = res
  have hres : (∃ p : Nat, res = .rt (.int p) S ∧ GapIs xs many cells L (some p)) ∨ (res = .nx [some (.loc r), some (.int L), none, none] S ∧ GapIs xs many cells L none) := by
    refine forXI hf (fun i ρ S' => S' = S ∧ ρ = [some (.loc r), some (.int L), none, none] ∧ ∀ room, room < i → ∀ q, ¬ FitR xs cells room q L)
      (fun res => (∃ p : Nat, res = .rt (.int p) S ∧ GapIs xs many cells L (some p)) ∨ (res = .nx [some (.loc r), some (.int L), none, none] S ∧ GapIs xs many cells L none)) ⟨rfl, rfl, fun _ h => by omega⟩ ?_ ?_
    · rintro i x0 ρ S' e0 ⟨rfl, rfl, hno⟩
      have hi : i < many := by
        have := (List.getElem?_eq_some_iff.mp e0).1
        rw [rngL_len] at this
        exact this
      rw [rngL_get hi] at e0
      cases e0
      refine ⟨_, rfl, ?_⟩
      obtain ⟨o, q, h⟩ := gap_in_spec R (room := i) (L := L) (by omega) hL
      simp! only [Int.zero_add, R.obj, q, isNot_non]
      cases o with
      | none =>
        simp! only [dO, isN_non]
        refine ⟨rfl, rfl, ?_⟩
        intro room hroom q
        by_cases h2 : room = i
        · rw [h2]; exact h q
        · exact hno room (by omega) q
      | some p =>
        simp! only [dO, isN_int]
        refine .inl ⟨p, rfl, ⟨i, by omega, h.1⟩, ?_⟩
        rintro q hq ⟨room, hroom, hfit⟩
        rcases Nat.lt_trichotomy room i with z | z | z
        · exact hno room z q hfit
        · rw [z] at hfit; exact h.2 q hq hfit
        · have h1 := hfit.1
          have h2 := h.1.2.1
          have h3 : (i + 1) * cells ≤ room * cells := Nat.mul_le_mul_right _ z
          omega
    · rintro ρ S' ⟨rfl, rfl, hno⟩
      rw [rngL_len] at hno
      refine .inr ⟨rfl, ?_⟩
      rintro q ⟨room, hroom, hfit⟩
      exact hno room (by omega) q hfit
  rcases hres with ⟨p, rfl, h⟩ | ⟨rfl, h⟩
  · exact ⟨some p, by simp! only [dO], h⟩
  · exact ⟨none, by simp! only [dO], h⟩
theorem gap_specF {S : Sto} {r l many cells : Nat} {xs : List D} (R : RoomsAt S r l many cells xs) {L : Nat} (hL : 1 ≤ L) : f_Rooms_gap [.loc r, .int L] S = .ok (dO (gapF xs many cells L)) S := by
  obtain ⟨o, h1, h2⟩ := gap_spec R hL
  rw [gapF_eq h2]
  exact h1
theorem fill_in_spec {S : Sto} {r l many cells p : Nat} {xs vs : List D} (R : RoomsAt S r l many cells xs) (hp : p + vs.length ≤ xs.length) :
    f_Rooms_fill_in [.loc r, .int p, .vl vs] S = .ok .non (S.set l (.lst (fillL xs p vs))) := by
  unfold f_Rooms_fill_in b_Rooms_fill_in
  simp! only []
  generalize hf : forX _ _ _ _ _ = res
  have hres : res = .nx [some (.loc r), some (.int p), some (.vl vs), none, none] (S.set l (.lst (fillL xs p vs))) := by
    refine forXI hf (fun i ρ S' => i ≤ vs.length ∧ ρ = [some (.loc r), some (.int p), some (.vl vs), none, none] ∧ S' = S.set l (.lst (fillL xs p (vs.take i)))) (fun res => res = .nx [some (.loc r), some (.int p), some (.vl vs), none, none] (S.set l (.lst (fillL xs p vs)))) ⟨by omega, rfl, ?_⟩ ?_ ?_
    · rw [List.take_zero, fillL]
      obtain ⟨hlt, e⟩ := List.getElem?_eq_some_iff.mp R.ins
      rw [← e, List.set_getElem_self]
    · rintro i x ρ S' e0 ⟨hi, rfl, rfl⟩
      unfold enuL at e0
      rw [List.getElem?_mapIdx] at e0
      obtain ⟨v, e, rfl⟩ := Option.map_eq_some_iff.mp e0
      have hi2 := (List.getElem?_eq_some_iff.mp e).1
      refine ⟨_, rfl, ?_⟩
      have R2 := R.upd (ys := fillL xs p (vs.take i)) fillL_len
      have ix : ixN (fillL xs p (vs.take i)).length ((p : Int) + (i : Int)) = some (p + i) := by
        rw [← Int.natCast_add]
        exact ixN_lt (by rw [fillL_len]; omega)
      simp! only [R2.obj, R2.ins, ix, List.set_set]
      refine ⟨by omega, rfl, ?_⟩
      have e3 : vs.take (i + 1) = vs.take i ++ [v] := by rw [List.take_add_one, e]; rfl
      rw [e3, fillL_snoc, List.length_take, Nat.min_eq_left (by omega)]
    · rintro ρ S' ⟨_, rfl, rfl⟩
      rw [enuL_len, List.take_length]
  subst hres
  simp! only []
theorem read_spec {S : Sto} {r l many cells p : Nat} {xs : List D} {x : D} (R : RoomsAt S r l many cells xs) (h : xs[p]? = some x) : f_Rooms_read [.loc r, .int p] S = .ok x S := by
  unfold f_Rooms_read b_Rooms_read
  simp! only [R.obj, R.ins, atI_nat h]
theorem write_spec {S : Sto} {r l many cells p : Nat} {xs : List D} {x : D} (R : RoomsAt S r l many cells xs) (h : p < xs.length) : f_Rooms_write [.loc r, .int p, x] S = .ok .non (S.set l (.lst (xs.set p x))) := by
  unfold f_Rooms_write b_Rooms_write
  simp! only [R.obj, R.ins, ixN_lt h]
theorem rooms_init_spec {S : Sto} {many cells r : Nat} (h1 : many < 2 ^ 20) (h2 : cells < 2 ^ 20) (h3 : many * cells ≤ 100000) (hr : S[r]? = some (.ins .Rooms [])) :
    f_Rooms_init [.loc r, .int many, .int cells] S = .ok .non (S.set r (.ins .Rooms [(.many, .int many), (.cells, .int cells), (.inside, .loc S.length)]) ++ [.lst (nons (many * cells))]) := by
  have m1 := fun S => mul_nat (tr := false) (a := many) (b := cells) (by omega) (by omega) S
  have o1 : okF .Rooms .many = true := by decide
  have o2 : okF .Rooms .cells = true := by decide
  have o3 : okF .Rooms .inside = true := by decide
  have hl := get_lt hr
  have g1 : ∀ o : O, (S.set r o)[r]? = some o := fun o => List.getElem?_set_self hl
  have g2 : ∀ (o o' : O), (S.set r o ++ [o'])[r]? = some o := fun o o' => get_app (g1 o)
  have g3 : ∀ (o o' o2 : O), (S.set r o ++ [o']).set r o2 = S.set r o2 ++ [o'] := fun o o' o2 => by
    rw [List.set_append_left _ _ (by rw [List.length_set]; exact hl), List.set_set]
  unfold f_Rooms_init b_Rooms_init
  simp! only [hr, kSetF_ok, o1, o2, o3, g1, g2, g3, List.set_set, putFl, m1, repL_nat h3, reps_non, List.length_set]
/-! ### the memory in the store -/
structure MemAt (S : Sto) (m r l : Nat) (many cells : Nat) (xs : List D) : Prop where
  ob : S[m]? = some (.ins .Memory [(.rooms, .loc r)])
  rm : RoomsAt S r l many cells xs
theorem MemAt.app {S T : Sto} {m r l many cells : Nat} {xs : List D} (M : MemAt S m r l many cells xs) : MemAt (S ++ T) m r l many cells xs := ⟨get_app M.ob, M.rm.app⟩
theorem MemAt.ne {S : Sto} {m r l many cells : Nat} {xs : List D} (M : MemAt S m r l many cells xs) : m ≠ l := by
  intro z
  have h1 := M.ob
  have h2 := M.rm.ins
  rw [z, h2] at h1
  cases h1
theorem MemAt.upd {S : Sto} {m r l many cells : Nat} {xs : List D} (M : MemAt S m r l many cells xs) {ys : List D} (h : ys.length = xs.length) : MemAt (S.set l (.lst ys)) m r l many cells ys :=
  ⟨set_get_ne M.ob M.ne.symm, M.rm.upd h⟩
/-- something else of the store is written -/
theorem MemAt.oth {S : Sto} {m r l many cells : Nat} {xs : List D} (M : MemAt S m r l many cells xs) {k : Nat} {o : O} (h1 : k ≠ m) (h2 : k ≠ r) (h3 : k ≠ l) : MemAt (S.set k o) m r l many cells xs :=
  ⟨set_get_ne M.ob h1, ⟨set_get_ne M.rm.obj h2, set_get_ne M.rm.ins h3, M.rm.len, M.rm.sm, M.rm.sc, M.rm.sx⟩⟩
/-- a thing at a place -/
structure TAt (xs : List D) (p : Nat) (t : Th) (n : Int) (b : Bool) : Prop where
  seg : Seg xs p (t.cells n b)
  ok : t.Ok
theorem TAt.hd {xs : List D} {p : Nat} {t : Th} {n : Int} {b : Bool} (h : TAt xs p t n b) : xs[p]? = some (.int (hdr t.s.kd b t.w.isSome t.size)) := h.seg.at (i := 0) rfl
theorem TAt.le {xs : List D} {p : Nat} {t : Th} {n : Int} {b : Bool} (h : TAt xs p t n b) : p + t.size ≤ xs.length := by
  have := h.seg.lt (by rw [cells_len]; have := size_pos t; omega)
  rw [cells_len] at this
  exact this
theorem TAt.ser {xs : List D} {p : Nat} {t : Th} {n : Int} {b : Bool} (h : TAt xs p t n b) : xs[p + 1]? = some (.int n) := h.seg.at (i := 1) rfl
theorem TAt.wc {xs : List D} {p : Nat} {t : Th} {n : Int} {b : Bool} (h : TAt xs p t n b) (hs : t.s = .plain) : xs[p + 2]? = some (wCell t.w) := h.seg.at (i := 2) (by simp [Th.cells, Th.body, hs])
def Th.off (t : Th) : Nat := if t.s = .plain then 3 else 2
theorem size_off (t : Th) : t.size = t.off + t.fs.length := rfl
theorem TAt.fld {xs : List D} {p : Nat} {t : Th} {n : Int} {b : Bool} (h : TAt xs p t n b) {i : Nat} {x : D} (e : t.fs[i]? = some x) : xs[p + t.off + i]? = some x := by
  rw [Nat.add_assoc]
  refine h.seg.at ?_
  unfold Th.cells Th.body Th.off
  split
  · rw [show 3 + i = i + 1 + 1 + 1 by omega]; simpa using e
  · rw [show 2 + i = i + 1 + 1 by omega]; simpa using e
theorem hz_of {t : Th} (ok : t.Ok) : (t.size : Int) < 2 ^ 40 := by have := size_le ok; omega
theorem mem_init_spec {S : Sto} {many cells m : Nat} (h1 : many < 2 ^ 20) (h2 : cells < 2 ^ 20) (h3 : many * cells ≤ 100000) (hm : S[m]? = some (.ins .Memory [])) :
    f_Memory_init [.loc m, .int many, .int cells] S = .ok .non (S.set m (.ins .Memory [(.rooms, .loc S.length)]) ++ [.ins .Rooms [(.many, .int many), (.cells, .int cells), (.inside, .loc (S.length + 1))], .lst (nons (many * cells))]) := by
  have o1 : okF .Memory .rooms = true := by decide
  have hl := get_lt hm
  have q := rooms_init_spec (S := S ++ [.ins .Rooms []]) (r := S.length) h1 h2 h3 (get_last _ _)
  have e1 : (S ++ [O.ins .Rooms []]).length = S.length + 1 := by simp
  have e2 : ∀ (T : Sto), (S ++ T)[m]? = some (.ins .Memory []) := fun T => get_app hm
  have e3 : ∀ (T : Sto) (o : O), (S ++ T).set m o = S.set m o ++ T := fun T o => List.set_append_left _ _ hl
  rw [e1, set_last] at q
  unfold f_Memory_init b_Memory_init
  simp! only [q, List.append_assoc, e2, kSetF_ok, o1, putFl, e3]
theorem size_at_spec {S : Sto} {m r l many cells : Nat} {xs : List D} (M : MemAt S m r l many cells xs) {p : Nat} {t : Th} {n : Int} {b : Bool} (h : TAt xs p t n b) : f_Memory_size_at [.loc m, .int p] S = .ok (.int t.size) S := by
  unfold f_Memory_size_at b_Memory_size_at
  simp! only [M.ob, M.rm.obj, read_spec M.rm h.hd, size_spec (kd_ok t.s).1 (kd_ok t.s).2 (Int.natCast_nonneg t.size)]
theorem sort_at_spec {S : Sto} {m r l many cells : Nat} {xs : List D} (M : MemAt S m r l many cells xs) {p : Nat} {t : Th} {n : Int} {b : Bool} (h : TAt xs p t n b) : f_Memory_sort_at [.loc m, .int p] S = .ok (.str t.s.nm) S := by
  have e : ∀ s : Srt, atI (List.map D.str c_SORTS) s.kd = some (.str s.nm) := fun s => by cases s <;> rfl
  unfold f_Memory_sort_at b_Memory_sort_at
  simp! only [M.ob, M.rm.obj, read_spec M.rm h.hd, kind_spec (kd_ok t.s).1 (kd_ok t.s).2 (Int.natCast_nonneg t.size), e]
theorem first_spec {S : Sto} {m r l many cells : Nat} {xs : List D} (M : MemAt S m r l many cells xs) {p : Nat} {t : Th} {n : Int} {b : Bool} (h : TAt xs p t n b) : f_Memory_first_field [.loc m, .int p] S = .ok (.int ((p + t.off : Nat) : Int)) S := by
  have q := sort_at_spec M h
  unfold f_Memory_first_field b_Memory_first_field Th.off
  cases hs : t.s <;> (rw [hs] at q; simp! only [M.ob, q, Srt.nm]; simp)
theorem marked_at_spec {S : Sto} {m r l many cells : Nat} {xs : List D} (M : MemAt S m r l many cells xs) {p : Nat} {t : Th} {n : Int} {b : Bool} (h : TAt xs p t n b) : f_Memory_marked_at [.loc m, .int p] S = .ok (.bl b) S := by
  unfold f_Memory_marked_at b_Memory_marked_at
  simp! only [M.ob, M.rm.obj, read_spec M.rm h.hd, mark_spec (kd_ok t.s).1 (kd_ok t.s).2 (Int.natCast_nonneg t.size)]
theorem thing_at_spec {S : Sto} {m r l many cells : Nat} {xs : List D} (M : MemAt S m r l many cells xs) {p : Nat} {t : Th} {n : Int} {b : Bool} (h : TAt xs p t n b) : f_Memory_thing_at [.loc m, .int p] S = .ok t.v S := by
  have hle := h.le
  have hx := M.rm.sx
  have hf := first_spec M h
  have hs := size_at_spec M h
  have hso := sort_at_spec M h
  have w1 : (p + t.off : Nat) < 2 ^ 62 := by rw [size_off] at hle; omega
  have e1 : (p : Int) + (t.size : Int) = ((p + t.off : Nat) : Int) + ((t.fs.length : Nat) : Int) := by rw [size_off]; omega
  have rg : ∀ S, itR2 [.int ((p + t.off : Nat) : Int), .int (((p + t.off : Nat) : Int) + ((t.fs.length : Nat) : Int))] S = some ⟨fixGet (rngL ((p + t.off : Nat) : Int) t.fs.length), t.fs.length + 1⟩ := fun S => rg2m (by omega) (by omega) (by rw [size_off] at hle; omega)
  have emap : (rngL ((p + t.off : Nat) : Int) t.fs.length).map (fun d => match d with
      | .int i => xs.getD i.toNat .non
      | _ => .non) = t.fs := by
    apply List.ext_getElem?
    intro i
    rw [List.getElem?_map]
    by_cases hi : i < t.fs.length
    · have e := h.fld (List.getElem?_eq_getElem hi)
      rw [rngL_get hi, Option.map_some, List.getElem?_eq_getElem hi]
      simp only
      rw [← Int.natCast_add, Int.toNat_natCast, List.getD_eq_getElem?_getD, e]
      rfl
    · rw [List.getElem?_eq_none (by rw [rngL_len]; omega), List.getElem?_eq_none (by omega)]
      rfl
  have lc := fun (ρ : Rho) (hρ : 4 < ρ.length) (h0 : ρ[0]? = some (some (.loc m))) => lcF_map (t := .nm 4) (me := mMeth .Rooms 2 f_Rooms_read (mFld .rooms (mVar 0)) (aCons (mVar 4) aNil)) (ρ := ρ) (S := S) (xs := rngL ((p + t.off : Nat) : Int) t.fs.length) (k := t.fs.length + 1)
    (fun d => match d with
      | .int i => xs.getD i.toNat .non
      | _ => .non) (fun x hx acc => by
    obtain ⟨k, hk, rfl⟩ := rngL_mem hx
    refine ⟨_, rfl, ?_⟩
    have hv : (ρ.set 4 (some (D.int (((p + t.off : Nat) : Int) + (k : Int)))))[4]? = some (some (D.int (((p + t.off : Nat) : Int) + (k : Int)))) := by rw [List.getElem?_set_self hρ]
    have h00 : (ρ.set 4 (some (D.int (((p + t.off : Nat) : Int) + (k : Int)))))[0]? = some (some (.loc m)) := by rw [List.getElem?_set_ne (by decide)]; exact h0
    have M2 := M.app (T := [.lst acc])
    have e := h.fld (List.getElem?_eq_getElem hk)
    have rd := read_spec M2.rm e
    rw [Int.natCast_add] at rd
    have e2 : xs.getD (((p + t.off : Nat) : Int) + (k : Int)).toNat .non = t.fs[k] := by
      rw [← Int.natCast_add, Int.toNat_natCast, List.getD_eq_getElem?_getD, e]; rfl
    simp! only [hv, h00, M2.ob, M2.rm.obj, rd, e2]) (by rw [rngL_len]) (by rw [rngL_len]; have := h.ok.len; omega) (by rw [emap]; exact h.ok.pu)
  rw [emap] at lc
  have mo := fun S => made_of_spec (S := S) (s := t.s) (w := t.w) h.ok.pu h.ok.nw
  unfold f_Memory_thing_at b_Memory_thing_at
  have ww := fun S => words_spec (m := b) (w := t.w.isSome) (kd_ok t.s).1 (kd_ok t.s).2 (Int.natCast_nonneg t.size) S
  cases hw : t.w with
  | none =>
    have hh := h.hd
    have ev : t.v = Th.v ⟨t.s, t.fs, none⟩ := by rw [← hw]
    simp only [hw, Option.isSome_none, wD] at ww mo hh
    simp! only [M.ob, M.rm.obj, hf, hs, hso, e1, rg, lc, read_spec M.rm hh, ww, mo, ev]
  | some i =>
    have hp : t.s = .plain := by
      cases q : t.s with
      | plain => rfl
      | weak => have := h.ok.nw (by rw [q]; decide); rw [hw] at this; cases this
      | pair => have := h.ok.nw (by rw [q]; decide); rw [hw] at this; cases this
    have hc := h.wc hp
    have hh := h.hd
    have ev : t.v = Th.v ⟨t.s, t.fs, some i⟩ := by rw [← hw]
    simp only [hw, Option.isSome_some, wD, wCell, vNum] at ww mo hh hc
    have e3 : ((p : Int) + 2) = ((p + 2 : Nat) : Int) := rfl
    simp! only [M.ob, M.rm.obj, hf, hs, hso, e1, rg, lc, read_spec M.rm hh, ww, e3, read_spec M.rm hc, mo, ev]
theorem put_in_spec {S : Sto} {m r l many cells : Nat} {xs : List D} (M : MemAt S m r l many cells xs) {t : Th} (ok : t.Ok) (n : Int) (b : Bool) :
    f_Memory_put_in [.loc m, t.v, .int n, .bl b] S = match gapF xs many cells t.size with
      | some p => .ok (.int p) (S.set l (.lst (fillL xs p (t.cells n b))))
      | none => .ok .non S := by
  have hL : 1 ≤ t.size := by have := size_pos t; omega
  have hg := gapF_is xs many cells t.size
  have hs := gap_specF M.rm hL
  unfold f_Memory_put_in b_Memory_put_in
  cases h : gapF xs many cells t.size with
  | none =>
    rw [h] at hs
    simp! only [laid_spec ok, th_pure, cells_len, M.ob, M.rm.obj, hs, dO]
  | some p =>
    rw [h] at hs hg
    obtain ⟨⟨room, h1, h2, h3, _⟩, _⟩ := hg
    have hp : p + (t.cells n b).length ≤ xs.length := by
      rw [cells_len, M.rm.len]
      exact Nat.le_trans h3 (room_lt h1)
    simp! only [laid_spec ok, th_pure, cells_len, M.ob, M.rm.obj, hs, dO, fill_in_spec M.rm hp]
theorem set_mark_spec {S : Sto} {m r l many cells : Nat} {xs : List D} (M : MemAt S m r l many cells xs) {p : Nat} {t : Th} {n : Int} {b : Bool} (h : TAt xs p t n b) (b' : Bool) :
    f_Memory_set_mark [.loc m, .int p, .bl b'] S = .ok .non (S.set l (.lst (fillL xs p (t.cells n b')))) := by
  have e : fillL xs p (t.cells n b') = xs.set p (t.hd b') := by
    have := fillL_set (v := t.hd b') h.seg (show 0 < (t.cells n b).length by rw [cells_len]; have := size_pos t; omega)
    rw [Nat.add_zero] at this
    rw [← this]; rfl
  have hp : p < xs.length := by have := h.le; have := size_pos t; omega
  rw [e]
  unfold f_Memory_set_mark b_Memory_set_mark Th.hd
  simp! only [M.ob, M.rm.obj, read_spec M.rm h.hd, with_mark_spec (kd_ok t.s).1 (kd_ok t.s).2 (Int.natCast_nonneg t.size) (hz_of h.ok), write_spec M.rm hp]
/-! ### what lies where -/
structure Ent where
  p : Nat
  t : Th
  n : Int
  b : Bool
def Ent.e (e : Ent) : Nat := e.p + e.t.size
structure Lay (xs : List D) (many cells : Nat) (L : List Ent) : Prop where
  at_ : ∀ e ∈ L, TAt xs e.p e.t e.n e.b
  room : ∀ e ∈ L, ∃ r, r < many ∧ r * cells ≤ e.p ∧ e.e ≤ (r + 1) * cells
  disj : L.Pairwise fun a b => a.e ≤ b.p ∨ b.e ≤ a.p
  cov : ∀ q, q < xs.length → xs[q]? ≠ some .non → ∃ e ∈ L, e.p ≤ q ∧ q < e.e
theorem Lay.empty {many cells : Nat} : Lay (nons (many * cells)) many cells [] :=
  ⟨fun e h => absurd h (List.not_mem_nil), fun e h => absurd h (List.not_mem_nil), List.Pairwise.nil, fun q h h2 => absurd (nons_get (by simpa [nons_len] using h)) h2⟩
theorem Lay.sep {xs : List D} {many cells : Nat} {L : List Ent} (h : Lay xs many cells L) {a b : Ent} (ha : a ∈ L) (hb : b ∈ L) : a = b ∨ a.e ≤ b.p ∨ b.e ≤ a.p := by
  have hd := h.disj
  clear h
  induction L with
  | nil => cases ha
  | cons c L ih =>
    obtain ⟨h1, h2⟩ := List.pairwise_cons.mp hd
    rcases List.mem_cons.mp ha with rfl | ha' <;> rcases List.mem_cons.mp hb with rfl | hb'
    · exact .inl rfl
    · exact .inr (h1 b hb')
    · exact .inr (h1 a ha').symm
    · exact ih ha' hb' h2
theorem Lay.same {xs : List D} {many cells : Nat} {L : List Ent} (h : Lay xs many cells L) {a b : Ent} (ha : a ∈ L) (hb : b ∈ L) (e : a.p = b.p) : a = b := by
  rcases h.sep ha hb with z | z | z
  · exact z
  · have := size_pos a.t; unfold Ent.e at z; omega
  · have := size_pos b.t; unfold Ent.e at z; omega
theorem cell_some {t : Th} {n : Int} {b : Bool} (ok : t.Ok) {i : Nat} (hi : i < t.size) : (t.cells n b)[i]? ≠ some .non := by
  intro h
  have hm := List.mem_of_getElem? h
  unfold Th.cells Th.body Th.hd at hm
  rcases List.mem_cons.mp hm with z | z
  · cases z
  · rcases List.mem_append.mp z with z | z
    · rcases List.mem_cons.mp z with z | z
      · cases z
      · split at z
        · have := List.mem_singleton.mp z
          have q := wCell_val t.w
          rw [← this] at q
          cases q
        · cases z
    · have := ok.val _ z
      cases this
/-- just the cells of things are not free -/
theorem Lay.free {xs : List D} {many cells : Nat} {L : List Ent} (h : Lay xs many cells L) {q : Nat} (hq : q < xs.length) : xs[q]? = some .non ↔ ∀ e ∈ L, q < e.p ∨ e.e ≤ q := by
  constructor
  · intro h0 e he
    have ht := h.at_ e he
    by_cases h1 : q < e.p
    · exact .inl h1
    · by_cases h2 : e.e ≤ q
      · exact .inr h2
      · exfalso
        obtain ⟨k, rfl⟩ := Nat.exists_eq_add_of_le (show e.p ≤ q by omega)
        have hk : k < e.t.size := by unfold Ent.e at h2; omega
        rw [ht.seg k (by rw [cells_len]; exact hk)] at h0
        exact cell_some ht.ok hk h0
  · intro h0
    by_cases h1 : xs[q]? = some .non
    · exact h1
    · obtain ⟨e, he, h2, h3⟩ := h.cov q hq h1
      rcases h0 e he with z | z <;> omega
/-- a thing is put in -/
theorem Lay.put {xs : List D} {many cells : Nat} {L : List Ent} (h : Lay xs many cells L) (hx : xs.length = many * cells) {t : Th} (ok : t.Ok) {n : Int} {b : Bool} {p : Nat} (hf : Fit xs many cells p t.size) :
    Lay (fillL xs p (t.cells n b)) many cells (L ++ [⟨p, t, n, b⟩]) := by
  obtain ⟨room, h1, h2, h3, h4⟩ := hf
  have hle : p + t.size ≤ xs.length := by rw [hx]; exact Nat.le_trans h3 (room_lt h1)
  have apart : ∀ e ∈ L, e.e ≤ p ∨ p + t.size ≤ e.p := by
    intro e he
    by_cases z : e.e ≤ p
    · exact .inl z
    · by_cases z2 : p + t.size ≤ e.p
      · exact .inr z2
      · exfalso
        have s1 := size_pos e.t
        have s2 := size_pos t
        -- a cell of both
        have hq : ∃ q, p ≤ q ∧ q < p + t.size ∧ e.p ≤ q ∧ q < e.e := ⟨max p e.p, by omega, by omega, by omega, by unfold Ent.e at *; omega⟩
        obtain ⟨q, q1, q2, q3, q4⟩ := hq
        rcases (h.free (by omega)).mp (h4 q q1 q2) e he with w | w <;> omega
  have len := cells_len t n b
  refine ⟨fun e he => ?_, fun e he => ?_, ?_, fun q hq hn => ?_⟩
  · rcases List.mem_append.mp he with he | he
    · refine ⟨fun i hi => ?_, (h.at_ e he).ok⟩
      rw [cells_len] at hi
      rw [fillL_out (by have := apart e he; unfold Ent.e at this; omega)]
      exact (h.at_ e he).seg i (by rw [cells_len]; exact hi)
    · rw [List.mem_singleton.mp he]
      exact ⟨fillL_in (by rw [len]; exact hle), ok⟩
  · rcases List.mem_append.mp he with he | he
    · exact h.room e he
    · rw [List.mem_singleton.mp he]
      exact ⟨room, h1, h2, h3⟩
  · refine List.pairwise_append.mpr ⟨h.disj, List.pairwise_singleton _ _, fun a ha c hc => ?_⟩
    rw [List.mem_singleton.mp hc]
    exact apart a ha
  · rw [fillL_len] at hq
    by_cases z : q < p ∨ p + (t.cells n b).length ≤ q
    · rw [fillL_out z] at hn
      obtain ⟨e, he, q1, q2⟩ := h.cov q hq hn
      exact ⟨e, List.mem_append_left _ he, q1, q2⟩
    · exact ⟨⟨p, t, n, b⟩, List.mem_append_right _ (List.mem_singleton.mpr rfl), by show p ≤ q; omega, by show q < p + t.size; omega⟩
/-- a thing is changed where it lies -/
theorem Lay.upd {xs : List D} {many cells : Nat} {L : List Ent} (h : Lay xs many cells L) {e : Ent} (he : e ∈ L) {t : Th} (ok : t.Ok) {n : Int} {b : Bool} (hs : t.size = e.t.size) :
    Lay (fillL xs e.p (t.cells n b)) many cells (L.map fun a => if a.p = e.p then ⟨e.p, t, n, b⟩ else a) := by
  have hle := (h.at_ e he).le
  have len := cells_len t n b
  have mm : ∀ {a}, a ∈ (L.map fun a => if a.p = e.p then (⟨e.p, t, n, b⟩ : Ent) else a) → a = ⟨e.p, t, n, b⟩ ∨ (a ∈ L ∧ a.p ≠ e.p) := by
    intro a ha
    obtain ⟨c, hc, rfl⟩ := List.mem_map.mp ha
    by_cases z : c.p = e.p
    · rw [if_pos z]; exact .inl rfl
    · rw [if_neg z]; exact .inr ⟨hc, z⟩
  refine ⟨fun a ha => ?_, fun a ha => ?_, ?_, fun q hq hn => ?_⟩
  · rcases mm ha with rfl | ⟨hc, z⟩
    · exact ⟨fillL_in (by rw [len, hs]; exact hle), ok⟩
    · refine ⟨fun i hi => ?_, (h.at_ a hc).ok⟩
      rw [cells_len] at hi
      have sp := h.sep hc he
      rw [fillL_out (by
        rw [len, hs]
        rcases sp with w | w | w
        · exact absurd (by rw [w]) z
        · unfold Ent.e at w; omega
        · unfold Ent.e at w; omega)]
      exact (h.at_ a hc).seg i (by rw [cells_len]; exact hi)
  · rcases mm ha with rfl | ⟨hc, z⟩
    · obtain ⟨r, r1, r2, r3⟩ := h.room e he
      exact ⟨r, r1, r2, by show e.p + t.size ≤ _; rw [hs]; exact r3⟩
    · exact h.room a hc
  · rw [List.pairwise_map]
    refine List.Pairwise.imp_of_mem (fun {a c} ha hc hac => ?_) h.disj
    have fe : ∀ {a : Ent}, a ∈ L → (if a.p = e.p then (⟨e.p, t, n, b⟩ : Ent) else a).p = a.p ∧ (if a.p = e.p then (⟨e.p, t, n, b⟩ : Ent) else a).e = a.e := by
      intro a ha
      by_cases z : a.p = e.p
      · have := h.same ha he z
        subst this
        rw [if_pos rfl]
        exact ⟨rfl, by show a.p + t.size = _; rw [hs]; rfl⟩
      · rw [if_neg z]; exact ⟨rfl, rfl⟩
    rw [(fe ha).1, (fe ha).2, (fe hc).1, (fe hc).2]
    exact hac
  · rw [fillL_len] at hq
    by_cases z : q < e.p ∨ e.p + (t.cells n b).length ≤ q
    · rw [fillL_out z] at hn
      obtain ⟨a, ha, q1, q2⟩ := h.cov q hq hn
      have hne : a.p ≠ e.p := fun w => by
        have := h.same ha he w
        subst this
        rw [len, hs] at z
        unfold Ent.e at q2
        omega
      exact ⟨a, List.mem_map.mpr ⟨a, ha, if_neg hne⟩, q1, q2⟩
    · refine ⟨⟨e.p, t, n, b⟩, List.mem_map.mpr ⟨e, he, if_pos rfl⟩, by show e.p ≤ q; omega, by show q < e.p + t.size; omega⟩
/-- a thing is taken out -/
theorem Lay.out {xs : List D} {many cells : Nat} {L : List Ent} (h : Lay xs many cells L) {e : Ent} (he : e ∈ L) :
    Lay (fillL xs e.p (nons e.t.size)) many cells (L.filter fun a => decide (a.p ≠ e.p)) := by
  have hle := (h.at_ e he).le
  have mm : ∀ {a}, a ∈ (L.filter fun a => decide (a.p ≠ e.p)) ↔ a ∈ L ∧ a.p ≠ e.p := by
    intro a
    rw [List.mem_filter, decide_eq_true_eq]
  refine ⟨fun a ha => ?_, fun a ha => h.room a (mm.mp ha).1, List.Pairwise.filter _ h.disj, fun q hq hn => ?_⟩
  · obtain ⟨hc, z⟩ := mm.mp ha
    refine ⟨fun i hi => ?_, (h.at_ a hc).ok⟩
    rw [cells_len] at hi
    rw [fillL_out (by
      rw [nons_len]
      rcases h.sep hc he with w | w | w
      · exact absurd (by rw [w]) z
      · unfold Ent.e at w; omega
      · unfold Ent.e at w; omega)]
    exact (h.at_ a hc).seg i (by rw [cells_len]; exact hi)
  · rw [fillL_len] at hq
    by_cases z : q < e.p ∨ e.p + (nons e.t.size).length ≤ q
    · rw [fillL_out z] at hn
      obtain ⟨a, ha, q1, q2⟩ := h.cov q hq hn
      refine ⟨a, mm.mpr ⟨ha, fun w => ?_⟩, q1, q2⟩
      have := h.same ha he w
      subst this
      rw [nons_len] at z
      unfold Ent.e at q2
      omega
    · obtain ⟨k, rfl⟩ := Nat.exists_eq_add_of_le (show e.p ≤ q by omega)
      rw [fillL_in (by rw [nons_len]; exact hle) k (by omega), nons_get (by rw [nons_len] at z; omega)] at hn
      exact absurd rfl hn
def Th.setF (t : Th) (i : Nat) (x : D) : Th := { t with fs := t.fs.set i x }
theorem setF_size (t : Th) (i : Nat) (x : D) : (t.setF i x).size = t.size := by unfold Th.setF Th.size; simp
theorem setF_ok {t : Th} (ok : t.Ok) {i : Nat} {x : D} (hx : IsVal x) : (t.setF i x).Ok :=
  ⟨fun y hy => by
    rcases List.mem_or_eq_of_mem_set hy with z | z
    · exact ok.val y z
    · rw [z]; exact hx, by have := ok.len; simpa [Th.setF] using this, fun h => by have := ok.wk h; simpa [Th.setF] using this, fun h => by have := ok.pr h; simpa [Th.setF] using this, ok.nw⟩
theorem setF_cells (t : Th) (n : Int) (b : Bool) (i : Nat) (x : D) : (t.setF i x).cells n b = (t.cells n b).set (t.off + i) x := by
  unfold Th.cells Th.body Th.hd
  rw [setF_size]
  unfold Th.setF Th.off
  split
  · rw [show 3 + i = i + 1 + 1 + 1 by omega]; simp
  · rw [show 2 + i = i + 1 + 1 by omega]; simp
theorem set_field_spec {S : Sto} {m r l many cells : Nat} {xs : List D} (M : MemAt S m r l many cells xs) {p : Nat} {t : Th} {n : Int} {b : Bool} (h : TAt xs p t n b) {i : Nat} (hi : i < t.fs.length) (x : D) :
    f_Memory_set_field [.loc m, .int p, .int i, x] S = .ok .non (S.set l (.lst (fillL xs p ((t.setF i x).cells n b)))) := by
  have hlt : t.off + i < (t.cells n b).length := by rw [cells_len, size_off]; omega
  have e : fillL xs p ((t.setF i x).cells n b) = xs.set (p + t.off + i) x := by
    rw [setF_cells, fillL_set h.seg hlt, Nat.add_assoc]
  have hp : p + t.off + i < xs.length := by have := h.le; rw [size_off] at this; omega
  have e2 : ((p + t.off : Nat) : Int) + (i : Int) = ((p + t.off + i : Nat) : Int) := by omega
  rw [e]
  unfold f_Memory_set_field b_Memory_set_field
  simp! only [M.ob, M.rm.obj, first_spec M h, e2, write_spec M.rm hp]
theorem Lay.pure {xs : List D} {many w : Nat} {L : List Ent} (h : Lay xs many w L) : pureAll xs = true := by
  refine pureAll_mem.mpr fun x hx => ?_
  obtain ⟨q, hq, rfl⟩ := List.getElem_of_mem hx
  by_cases z : xs[q]? = some .non
  · rw [List.getElem?_eq_getElem hq] at z
    rw [Option.some.inj z]; rfl
  · obtain ⟨e, he, q1, q2⟩ := h.cov q hq z
    have ht := h.at_ e he
    obtain ⟨k, rfl⟩ := Nat.exists_eq_add_of_le q1
    have hk : k < (e.t.cells e.n e.b).length := by rw [cells_len]; unfold Ent.e at q2; omega
    have := ht.seg k hk
    rw [List.getElem?_eq_getElem hq, List.getElem?_eq_getElem hk] at this
    rw [Option.some.inj this]
    exact pureAll_mem.mp (cells_pure ht.ok e.n e.b) _ (List.getElem_mem hk)
theorem cell_at_spec {ns : List Int} {k : Nat} (S : Sto) : f_law_cell_at [.cl (ns.map .int), .int k] S = .ok (.int (ns.getD k 0)) S := by
  unfold f_law_cell_at b_law_cell_at
  by_cases h : k < ns.length
  · have d1 : decide ((k : Int) < ((ns.map D.int).length : Nat)) = true := decide_eq_true (by simpa using h)
    have e1 : atI (ns.map D.int) (k : Int) = some (.int (ns.getD k 0)) := atI_nat (by simp [h])
    simp! only [d1, e1]
  · have d1 : decide ((k : Int) < ((ns.map D.int).length : Nat)) = false := decide_eq_false (by simpa using h)
    simp! only [d1]
    simp [List.getD_eq_getElem?_getD, List.getElem?_eq_none (show ns.length ≤ k by omega)]
theorem cell_at_0 {ns : List Int} (S : Sto) : f_law_cell_at [.cl (ns.map .int), .int 0] S = .ok (.int (ns.getD 0 0)) S := cell_at_spec (k := 0) S
/-! ### things by number -/
def entL (n : Nat) (E : Nat → Ent) : List Ent := (List.range n).map E
def upE (E : Nat → Ent) (k : Nat) (e : Ent) : Nat → Ent := fun i => if i = k then e else E i
theorem entL_mem {n : Nat} {E : Nat → Ent} {e : Ent} : e ∈ entL n E ↔ ∃ i, i < n ∧ E i = e := by
  unfold entL; rw [List.mem_map]; exact ⟨fun ⟨i, h, q⟩ => ⟨i, List.mem_range.mp h, q⟩, fun ⟨i, h, q⟩ => ⟨i, List.mem_range.mpr h, q⟩⟩
theorem entL_in {n : Nat} {E : Nat → Ent} {k : Nat} (h : k < n) : E k ∈ entL n E := entL_mem.mpr ⟨k, h, rfl⟩
theorem entL_len {n : Nat} {E : Nat → Ent} : (entL n E).length = n := by unfold entL; simp
theorem entL_congr {n : Nat} {E F : Nat → Ent} (h : ∀ i, i < n → E i = F i) : entL n E = entL n F := List.map_congr_left fun i hi => h i (List.mem_range.mp hi)
theorem Lay.atK {xs : List D} {many w n : Nat} {E : Nat → Ent} (h : Lay xs many w (entL n E)) {k : Nat} (hk : k < n) : TAt xs (E k).p (E k).t (E k).n (E k).b := h.at_ _ (entL_in hk)
theorem Lay.inj {xs : List D} {many w n : Nat} {E : Nat → Ent} (h : Lay xs many w (entL n E)) {i j : Nat} (hi : i < n) (hj : j < n) (e : (E i).p = (E j).p) : i = j := by
  have hd := h.disj
  unfold entL at hd
  rw [List.pairwise_map] at hd
  have key : ∀ i j, i < n → j < n → i < j → (E i).p ≠ (E j).p := fun i j hi hj hij w => by
    have := List.pairwise_iff_getElem.mp hd i j (by simpa using hi) (by simpa using hj) hij
    simp only [List.getElem_range] at this
    have s1 := size_pos (E i).t
    have s2 := size_pos (E j).t
    unfold Ent.e at this
    omega
  rcases Nat.lt_trichotomy i j with z | z | z
  · exact absurd e (key i j hi hj z)
  · exact z
  · exact absurd e.symm (key j i hj hi z)
theorem Lay.updK {xs : List D} {many w n : Nat} {E : Nat → Ent} (h : Lay xs many w (entL n E)) {k : Nat} (hk : k < n) {t : Th} (ok : t.Ok) {m : Int} {b : Bool} (hs : t.size = (E k).t.size) :
    Lay (fillL xs (E k).p (t.cells m b)) many w (entL n (upE E k ⟨(E k).p, t, m, b⟩)) := by
  have := h.upd (entL_in hk) ok (n := m) (b := b) hs
  have e : ((entL n E).map fun a => if a.p = (E k).p then (⟨(E k).p, t, m, b⟩ : Ent) else a) = entL n (upE E k ⟨(E k).p, t, m, b⟩) := by
    unfold entL
    rw [List.map_map]
    refine List.map_congr_left fun i hi => ?_
    show (if (E i).p = (E k).p then _ else _) = upE E k _ i
    unfold upE
    by_cases z : i = k
    · rw [if_pos z, if_pos (by rw [z])]
    · rw [if_neg z, if_neg fun w => z (h.inj (List.mem_range.mp hi) hk w)]
  rw [e] at this
  exact this
theorem entL_snoc {n : Nat} {E : Nat → Ent} {e : Ent} : entL (n + 1) (upE E n e) = entL n E ++ [e] := by
  unfold entL
  rw [List.range_succ, List.map_append]
  congr 1
  · refine List.map_congr_left fun i hi => ?_
    have := List.mem_range.mp hi
    unfold upE
    rw [if_neg (by omega)]
  · simp [upE]
theorem Lay.putK {xs : List D} {many w n : Nat} {E : Nat → Ent} (h : Lay xs many w (entL n E)) (hx : xs.length = many * w) {t : Th} (ok : t.Ok) {m : Int} {b : Bool} {p : Nat} (hf : Fit xs many w p t.size) :
    Lay (fillL xs p (t.cells m b)) many w (entL (n + 1) (upE E n ⟨p, t, m, b⟩)) := by
  rw [entL_snoc]
  exact h.put hx ok hf

set_option Elab.async false
set_option linter.all false
set_option maxRecDepth 100000
set_option maxHeartbeats 4000000
/-! ### marking -/
def mkO (m q : Nat) : O := .ins .Marking [(.memory, .loc m), (.line, .loc q)]
structure MkAt (S : Sto) (m r l mk q many w : Nat) (xs : List D) (gs : List Int) : Prop where
  M : MemAt S m r l many w xs
  ob : S[mk]? = some (mkO m q)
  ln : S[q]? = some (.lst (gs.map .int))
  ne : q ≠ l
  sm : gs.length ≤ 100000
def mkS (S : Sto) (l q : Nat) (xs : List D) (gs : List Int) : Sto := (S.set l (.lst xs)).set q (.lst (gs.map .int))
theorem mkS_len {S : Sto} {l q : Nat} {xs : List D} {gs : List Int} : (mkS S l q xs gs).length = S.length := by unfold mkS; simp
theorem mkS_mkS {S : Sto} {l q : Nat} {xs ys : List D} {gs hs : List Int} : mkS (mkS S l q xs gs) l q ys hs = mkS S l q ys hs := by
  unfold mkS
  by_cases z : q = l
  · subst z; simp only [List.set_set]
  · rw [List.set_comm _ _ z, List.set_set, List.set_set]
theorem mkS_self {S : Sto} {m r l mk q many w : Nat} {xs : List D} {gs : List Int} (h : MkAt S m r l mk q many w xs gs) : mkS S l q xs gs = S := by
  unfold mkS
  obtain ⟨a1, a2⟩ := List.getElem?_eq_some_iff.mp h.M.rm.ins
  obtain ⟨b1, b2⟩ := List.getElem?_eq_some_iff.mp h.ln
  rw [← a2, List.set_getElem_self, ← b2, List.set_getElem_self]
theorem mkS_app {S T : Sto} {m r l mk q many w : Nat} {xs ys : List D} {gs hs : List Int} (h : MkAt S m r l mk q many w xs gs) : mkS (S ++ T) l q ys hs = mkS S l q ys hs ++ T := by
  unfold mkS
  rw [List.set_append_left _ _ (get_lt h.M.rm.ins), List.set_append_left _ _ (by rw [List.length_set]; exact get_lt h.ln)]
theorem MkAt.neq {S : Sto} {m r l mk q many w : Nat} {xs : List D} {gs : List Int} (h : MkAt S m r l mk q many w xs gs) : q ≠ m ∧ q ≠ r ∧ q ≠ mk ∧ l ≠ mk ∧ l ≠ m ∧ l ≠ r := by
  have h1 := h.M.ob
  have h2 := h.M.rm.obj
  have h3 := h.ob
  have h4 := h.ln
  have h5 := h.M.rm.ins
  refine ⟨fun z => ?_, fun z => ?_, fun z => ?_, fun z => ?_, fun z => ?_, fun z => ?_⟩
  · rw [z, h1] at h4; cases h4
  · rw [z, h2] at h4; cases h4
  · rw [z, h3] at h4; cases h4
  · rw [z, h3] at h5; cases h5
  · rw [z, h1] at h5; cases h5
  · rw [z, h2] at h5; cases h5
theorem MkAt.upd {S : Sto} {m r l mk q many w : Nat} {xs ys : List D} {gs hs : List Int} (h : MkAt S m r l mk q many w xs gs) (hy : ys.length = xs.length) (hh : hs.length ≤ 100000) : MkAt (mkS S l q ys hs) m r l mk q many w ys hs := by
  obtain ⟨n1, n2, n3, n4, n5, n6⟩ := h.neq
  have hl : l < S.length := get_lt h.M.rm.ins
  have hq : q < S.length := get_lt h.ln
  refine ⟨(h.M.upd hy).oth n1 n2 h.ne, ?_, ?_, h.ne, hh⟩
  · unfold mkS; rw [List.getElem?_set_ne n3, List.getElem?_set_ne n4]; exact h.ob
  · unfold mkS; rw [List.getElem?_set_self (by rw [List.length_set]; exact hq)]
theorem MkAt.app {S T : Sto} {m r l mk q many w : Nat} {xs : List D} {gs : List Int} (h : MkAt S m r l mk q many w xs gs) : MkAt (S ++ T) m r l mk q many w xs gs :=
  ⟨h.M.app, get_app h.ob, get_app h.ln, h.ne, h.sm⟩
/-- the memory's things, by number, with what is marked -/
def Ed (B : Nat → Ent) (dk : Nat → Bool) (i : Nat) : Ent := ⟨(B i).p, (B i).t, (B i).n, dk i⟩
def plc (B : Nat → Ent) (k : Nat) : Int := ((B k).p : Int)
def shd (s : (Nat → Bool) × List Nat) (k : Nat) : (Nat → Bool) × List Nat := if s.1 k = true then s else (fun i => if i = k then true else s.1 i, s.2 ++ [k])
theorem shd_len (s : (Nat → Bool) × List Nat) (k : Nat) : (shd s k).2.length ≤ s.2.length + 1 := by
  unfold shd; split <;> simp
theorem shd_mem {s : (Nat → Bool) × List Nat} {k i : Nat} (h : i ∈ (shd s k).2) : i ∈ s.2 ∨ i = k := by
  unfold shd at h; split at h
  · exact .inl h
  · simpa using h
structure Mg (S : Sto) (m r l mk q many w n : Nat) (B : Nat → Ent) (xs : List D) (s : (Nat → Bool) × List Nat) : Prop where
  at_ : MkAt S m r l mk q many w xs (s.2.map (plc B))
  lay : Lay xs many w (entL n (Ed B s.1))
  lt : ∀ k ∈ s.2, k < n
theorem Mg.app {S T : Sto} {m r l mk q many w n : Nat} {B : Nat → Ent} {xs : List D} {s : (Nat → Bool) × List Nat} (h : Mg S m r l mk q many w n B xs s) : Mg (S ++ T) m r l mk q many w n B xs s := ⟨h.at_.app, h.lay, h.lt⟩
theorem upE_Ed {B : Nat → Ent} {dk : Nat → Bool} {k : Nat} {b : Bool} : upE (Ed B dk) k ⟨(B k).p, (B k).t, (B k).n, b⟩ = Ed B (fun i => if i = k then b else dk i) := by
  funext i
  unfold upE Ed
  by_cases z : i = k
  · subst z; simp
  · simp [z]
theorem shade_spec {S : Sto} {m r l mk q many w n : Nat} {B : Nat → Ent} {xs : List D} {s : (Nat → Bool) × List Nat} (h : Mg S m r l mk q many w n B xs s) {k : Nat} (hk : k < n) (hs : s.2.length < 100000) :
    ∃ xs', xs'.length = xs.length ∧ Mg (mkS S l q xs' ((shd s k).2.map (plc B))) m r l mk q many w n B xs' (shd s k) ∧
      f_Marking_shade [.loc mk, .int (plc B k)] S = .ok .non (mkS S l q xs' ((shd s k).2.map (plc B))) := by
  obtain ⟨n1, n2, n3, n4, n5, n6⟩ := h.at_.neq
  have ta := h.lay.atK hk
  have ma := marked_at_spec h.at_.M ta
  have sm := set_mark_spec h.at_.M ta true
  have ob := h.at_.ob
  have hl : l < S.length := get_lt h.at_.M.rm.ins
  unfold mkO at ob
  unfold f_Marking_shade b_Marking_shade
  cases hb : s.1 k with
  | true =>
    have e : shd s k = s := if_pos hb
    have z : (Ed B s.1 k).b = true := hb
    rw [z] at ma
    refine ⟨xs, rfl, ?_, ?_⟩
    · rw [e, mkS_self h.at_]; exact h
    · rw [e, mkS_self h.at_]
      simp only [Ed] at ma
      unfold plc
      simp! only [ob, h.at_.M.ob, ma]
  | false =>
    have e : shd s k = (fun i => if i = k then true else s.1 i, s.2 ++ [k]) := if_neg (by rw [hb]; decide)
    have z : (Ed B s.1 k).b = false := hb
    rw [z] at ma
    have l2 := h.lay.updK hk ta.ok (m := (B k).n) (b := true) rfl
    have l3 : upE (Ed B s.1) k ⟨(Ed B s.1 k).p, (Ed B s.1 k).t, (B k).n, true⟩ = Ed B (shd s k).1 := by rw [e]; exact upE_Ed
    rw [l3] at l2
    have len : (fillL xs (B k).p ((B k).t.cells (B k).n true)).length = xs.length := fillL_len
    refine ⟨_, len, ⟨h.at_.upd len (by rw [List.length_map, e]; simp; omega), l2, fun i hi => ?_⟩, ?_⟩
    · rcases shd_mem hi with q | q
      · exact h.lt i q
      · rw [q]; exact hk
    · have ob2 : (S.set l (.lst (fillL xs (B k).p ((B k).t.cells (B k).n true))))[mk]? = some (.ins .Marking [(.memory, .loc m), (.line, .loc q)]) := by
        rw [List.getElem?_set_ne n4]; exact ob
      have ln2 : (S.set l (.lst (fillL xs (B k).p ((B k).t.cells (B k).n true))))[q]? = some (.lst ((s.2.map (plc B)).map .int)) := by
        rw [List.getElem?_set_ne h.at_.ne.symm]; exact h.at_.ln
      have le : (((s.2.map (plc B)).map D.int).length < sizeLine) = True := lt_line (by simp; omega)
      have ea : (s.2.map (plc B)).map D.int ++ [D.int ((B k).p : Int)] = ((s.2 ++ [k]).map (plc B)).map .int := by simp [plc]
      simp only [Ed] at ma sm
      rw [e]
      unfold plc mkS
      unfold plc at ln2 le ea
      have mo2 : (S.set l (.lst (fillL xs (B k).p ((B k).t.cells (B k).n true))))[m]? = some (.ins .Memory [(.rooms, .loc r)]) := by
        rw [List.getElem?_set_ne n5]; exact h.at_.M.ob
      simp! only [ob, h.at_.M.ob, ma, sm, ob2, mo2, ln2, le, ea]
/-- what a thing holds -/
def Th.hold (t : Th) : List D := if t.s = .plain then t.fs.flatMap nmOf else []
theorem isTh_call {x : D} (h : IsVal x) (S : Sto) : f_is_thing [x] S = .ok (.bl (isTh x)) S := by
  unfold f_is_thing b_is_thing
  cases h with
  | no => rw [isTh_no]; unfold vNo; simp! only [s_nt]
  | num i => rw [isTh_num]; unfold vNum; simp! only [s_mt]
  | th i => rw [isTh_th]; unfold vTh; simp! only [s_tt]
theorem hold_fil {fs : List D} (h : ∀ x ∈ fs, IsVal x) : (fs.filter isTh).map idx2 = fs.flatMap nmOf := by
  induction fs with
  | nil => rfl
  | cons x fs ih =>
    have ih := ih fun y hy => h y (List.mem_cons_of_mem _ hy)
    rw [List.flatMap_cons]
    cases h x (List.mem_cons_self ..) with
    | no => rw [List.filter_cons_of_neg (by rw [isTh_no]; decide), ih, nm_no, List.nil_append]
    | num i => rw [List.filter_cons_of_neg (by rw [isTh_num]; decide), ih, nm_num, List.nil_append]
    | th i => rw [List.filter_cons_of_pos (isTh_th i), List.map_cons, ih, nm_th]; rfl
theorem plain_holds_spec {t : Th} (ok : t.Ok) (x : D) (S : Sto) : f_Plain_holds [.vo .Plain [.row, .last_words] [.vl t.fs, x]] S = .ok (.vl (t.fs.flatMap nmOf)) S := by
  have hp : pureAll (t.fs.flatMap nmOf) = true := by
    rw [← hold_fil ok.val]
    exact pureAll_mem.mpr fun y hy => by
      obtain ⟨z, hz, rfl⟩ := List.mem_map.mp hy
      have hv := ok.val z (List.mem_filter.mp hz).1
      cases hv <;> rfl
  have lc := fun (ρ : Rho) (hρ : 1 < ρ.length) => lcF_fil (t := .nm 1) (tt := mTest (mCall 1 f_is_thing (aCons (mVar 1) aNil))) (me := mOp2 getI (mVar 1) (mC (.int 1))) (ρ := ρ) (S := S) (xs := t.fs) (k := t.fs.length + 1)
    isTh idx2 (fun x hx acc => by
      have hv := ok.val x hx
      have hh : (ρ.set 1 (some x))[1]? = some (some x) := by rw [List.getElem?_set_self hρ]
      have ic := isTh_call hv (S ++ [.lst acc])
      refine ⟨_, rfl, ?_, ?_⟩
      · simp! only [hh, ic]
      · intro hb
        cases hv with
        | no => rw [isTh_no] at hb; cases hb
        | num i => rw [isTh_num] at hb; cases hb
        | th i => unfold vTh at hh ⊢; simp! only [hh]; rfl) rfl (by have := ok.len; omega) (by rw [hold_fil ok.val]; exact hp)
  rw [hold_fil ok.val] at lc
  unfold f_Plain_holds b_Plain_holds
  simp! only [lc, hp]
theorem ask_holds {t : Th} (ok : t.Ok) {m : MEx} {ρ : Rho} {S : Sto} (hm : m ρ S = .ok t.v S) :
    mAlt (mMeth0 .Thing f_Thing_holds m) (mAlt (mMeth0 .Plain f_Plain_holds m) (mMeth0 .Pair f_Thing_holds m)) ρ S = .ok (.vl t.hold) S := by
  have h1 : ∀ x : D, f_Thing_holds [x] S = .ok (.vl []) S := fun x => by
    unfold f_Thing_holds b_Thing_holds
    simp! only []
  have h2 := fun x => plain_holds_spec ok x S
  clear ok
  obtain ⟨s, fs, w⟩ := t
  cases s with
  | plain => simp only [Th.v] at hm; dsimp only at h2; simp! only [hm, h2]; rfl
  | weak => simp only [Th.v, Srt.cl] at hm; simp! only [hm, h1]; rfl
  | pair => simp only [Th.v, Srt.cl] at hm; simp! only [hm, h1]; rfl
/-- a step -/
def stp (hold : Nat → List Nat) (s : (Nat → Bool) × List Nat) : (Nat → Bool) × List Nat := match s.2 with
  | [] => s
  | k :: gl => (hold k).foldl shd (s.1, gl)
structure Hd (n : Nat) (B : Nat → Ent) (hold : Nat → List Nat) : Prop where
  eq : ∀ k, k < n → (B k).t.hold = (hold k).map fun h => D.int (plc B h)
  lt : ∀ k, k < n → ∀ h ∈ hold k, h < n
  sm : ∀ k, k < n → (hold k).length ≤ 1000
theorem fold_shd_len {hs : List Nat} : ∀ {s : (Nat → Bool) × List Nat}, (hs.foldl shd s).2.length ≤ s.2.length + hs.length := by
  induction hs with
  | nil => intro s; exact Nat.le_refl _
  | cons h hs ih =>
    intro s
    rw [List.foldl_cons]
    have h1 := ih (s := shd s h)
    have h2 := shd_len s h
    rw [List.length_cons]
    omega
theorem step_spec {S : Sto} {m r l mk q many w n : Nat} {B : Nat → Ent} {xs : List D} {dk : Nat → Bool} {k : Nat} {gl : List Nat} (h : Mg S m r l mk q many w n B xs (dk, k :: gl)) {hold : Nat → List Nat} (H : Hd n B hold) (hs : gl.length ≤ 10000) :
    ∃ xs', xs'.length = xs.length ∧ Mg (mkS S l q xs' ((stp hold (dk, k :: gl)).2.map (plc B))) m r l mk q many w n B xs' (stp hold (dk, k :: gl)) ∧
      f_Marking_step [.loc mk] S = .ok (.int (plc B k)) (mkS S l q xs' ((stp hold (dk, k :: gl)).2.map (plc B))) := by
  have hk : k < n := h.lt k (List.mem_cons_self ..)
  have ob := h.at_.ob
  have obm := fun S (M : MkAt S m r l mk q many w xs (gl.map (plc B))) => M.ob
  have ln := h.at_.ln
  obtain ⟨n1, n2, n3, n4, n5, n6⟩ := h.at_.neq
  have ta := h.lay.atK hk
  unfold mkO at ob obm
  -- the row's first leaves
  have hS1 : S.set q (.lst ((gl.map (plc B)).map .int)) = mkS S l q xs (gl.map (plc B)) := by
    unfold mkS
    obtain ⟨a1, a2⟩ := List.getElem?_eq_some_iff.mp h.at_.M.rm.ins
    rw [← a2, List.set_getElem_self]
  have M1 : Mg (mkS S l q xs (gl.map (plc B))) m r l mk q many w n B xs (dk, gl) := ⟨h.at_.upd rfl (by rw [List.length_map]; omega), h.lay, fun i hi => h.lt i (List.mem_cons_of_mem _ hi)⟩
  have pop : lPopAt (.loc q) [.int 0] S = .ok (.int (plc B k)) (mkS S l q xs (gl.map (plc B))) := by
    rw [← hS1]
    have ln' : S[q]? = some (.lst (D.int (plc B k) :: ((gl.map (plc B)).map .int))) := ln
    unfold lPopAt
    simp only [ln']
    rw [if_pos (by decide)]
    simp only [seqIndex?, List.length_cons]
    simp
  have tha := thing_at_spec M1.at_.M ta
  have hh := fun (mm : MEx) ρ S (hm : mm ρ S = .ok (B k).t.v S) => ask_holds ta.ok (m := mm) (ρ := ρ) (S := S) hm
  have hhB : (Ed B dk k).t.hold = (hold k).map fun h => D.int (plc B h) := H.eq k hk
  have e2 : stp hold (dk, k :: gl) = (hold k).foldl shd (dk, gl) := rfl
  unfold f_Marking_step b_Marking_step
  have aH := fun (m : MEx) ρ S => ask_holds ta.ok (m := m) (ρ := ρ) (S := S)
  rw [hhB] at aH
  have ob1 := M1.at_.ob
  have mo1 := M1.at_.M.ob
  unfold mkO at ob1
  simp only [Ed] at tha aH
  have hpc : plc B k = ((B k).p : Int) := rfl
  rw [← hpc] at tha
  simp! only [- r_alt, ob, ln, pop, aH, List.length_map, ob1, mo1, tha]
  generalize hf : forX _ _ _ _ _ = res
  obtain ⟨ρ', S', rfl, xs', hx', M2, rfl, rfl⟩ := forN_nx hf (fun i ρ S' => ∃ xs', xs'.length = xs.length ∧ Mg (mkS S l q xs' ((((hold k).take i).foldl shd (dk, gl)).2.map (plc B))) m r l mk q many w n B xs' (((hold k).take i).foldl shd (dk, gl)) ∧
      ρ = [some (.loc mk), some (.int (plc B k)), none] ∧ S' = mkS S l q xs' ((((hold k).take i).foldl shd (dk, gl)).2.map (plc B)))
    ⟨xs, rfl, M1, rfl, rfl⟩ (by
    rintro i x ρ S' e ⟨xs', hx', M2, rfl, rfl⟩
    rw [List.getElem?_map] at e
    obtain ⟨o, e1, rfl⟩ := Option.map_eq_some_iff.mp e
    have ho : o < n := H.lt k hk o (List.mem_of_getElem? e1)
    have sm := H.sm k hk
    have tk : (hold k).take (i + 1) = (hold k).take i ++ [o] := by rw [List.take_add_one, e1]; rfl
    have tl : (((hold k).take i).foldl shd (dk, gl)).2.length ≤ 11000 := by
      have := fold_shd_len (hs := (hold k).take i) (s := (dk, gl))
      rw [List.length_take] at this
      dsimp only at this
      omega
    obtain ⟨xs2, hx2, M3, sh⟩ := shade_spec M2 ho (by omega)
    have ob1 := M2.at_.ob
    unfold mkO at ob1
    rw [mkS_mkS] at M3 sh
    simp! only [ob1, sh]
    refine ⟨xs2, by rw [hx2, hx'], ?_, (by first | rfl | trivial), ?_⟩
    · rw [tk, List.foldl_append]; exact M3
    · rw [tk, List.foldl_append]; rfl)
  rw [List.length_map, List.take_length] at M2 ⊢
  refine ⟨xs', hx', ?_, ?_⟩
  · rw [e2]; exact M2
  · rw [e2]
    simp! only []
theorem mk_init_spec {S : Sto} {k m : Nat} (hk : S[k]? = some (.ins .Marking [])) : f_Marking_init [.loc k, .loc m] S = .ok .non (S.set k (mkO m S.length) ++ [.lst []]) := by
  have hl := get_lt hk
  have e1 : ∀ o : O, (S.set k o)[k]? = some o := fun o => List.getElem?_set_self hl
  have e2 : ∀ o o' : O, (S.set k o ++ [o'])[k]? = some o := fun o o' => get_app (e1 o)
  have e3 : ∀ o o' o'' : O, (S.set k o ++ [o']).set k o'' = S.set k o'' ++ [o'] := fun o o' o'' => by
    rw [List.set_append_left _ _ (by rw [List.length_set]; exact hl), List.set_set]
  unfold mkO
  unfold f_Marking_init b_Marking_init
  have o1 : okF .Marking .memory = true := by decide
  have o2 : okF .Marking .line = true := by decide
  simp! only [hk, e1, e2, e3, List.length_set, kSetF_ok, o1, o2, putFl]
theorem greyV_spec {S : Sto} {m r l mk q many w : Nat} {xs : List D} {gs : List Int} (h : MkAt S m r l mk q many w xs gs) : f_Marking_grey [.loc mk] S = .ok (.vl (gs.map .int)) S := by
  have ob := h.ob
  unfold mkO at ob
  unfold f_Marking_grey b_Marking_grey
  simp! only [ob, h.ln, cList_loc, liL_ok, newL_f, pureAll_ints]
theorem colour_spec {S : Sto} {m r l mk q many w : Nat} {xs : List D} {gs : List Int} (h : MkAt S m r l mk q many w xs gs) {p : Nat} {t : Th} {n : Int} {b : Bool} (ht : TAt xs p t n b) :
    f_Marking_colour_of [.loc mk, .int p] S = .ok (.str (if b = true then (if (p : Int) ∈ gs then "grey" else "black") else "white")) S := by
  have ob := h.ob
  unfold mkO at ob
  have ma := marked_at_spec h.M ht
  have iq : inQ false (.int p) (.loc q) S = .ok (.bl (decide ((p : Int) ∈ gs))) S := inQ_ints h.ln
  unfold f_Marking_colour_of b_Marking_colour_of
  cases b with
  | false => simp! only [ob, h.M.ob, ma]; try rfl
  | true =>
    by_cases z : (p : Int) ∈ gs
    · rw [decide_eq_true z] at iq
      rw [if_pos rfl, if_pos z]
      simp! only [ob, h.M.ob, ma, h.ln, iq]
    · rw [decide_eq_false z] at iq
      rw [if_pos rfl, if_neg z]
      simp! only [ob, h.M.ob, ma, h.ln, iq]
theorem val_put {kvs : List (Key × D)} {k k' : Key} {v : D} : valD (putD kvs k v) k' = if k' = k then some v else valD kvs k' := by
  unfold valD putD
  by_cases hm : (kvs.any fun kv => decide (kv.1 = k)) = true
  · rw [if_pos hm]
    induction kvs with
    | nil => simp at hm
    | cons kv r ih =>
      rw [List.map_cons, List.find?_cons, List.find?_cons]
      by_cases h1 : kv.1 = k
      · rw [if_pos h1]
        dsimp only
        by_cases h2 : k' = k
        · rw [if_pos h2, h1, h2]
          simp
        · rw [if_neg h2, h1]
          simp only [show decide (k = k') = false from decide_eq_false fun z => h2 z.symm]
          by_cases hr : (r.any fun kv => decide (kv.1 = k)) = true
          · have := ih hr
            rw [if_neg h2] at this
            exact this
          · have : r.map (fun kv => if kv.1 = k then (kv.1, v) else kv) = r := by
              conv => rhs; rw [← List.map_id r]
              refine List.map_congr_left fun a ha => ?_
              rw [if_neg fun z => hr (List.any_eq_true.mpr ⟨a, ha, decide_eq_true z⟩)]
              rfl
            rw [this]
      · rw [if_neg h1]
        cases h3 : decide (kv.1 = k') with
        | true =>
          have : k' ≠ k := fun z => h1 ((of_decide_eq_true h3).trans z)
          rw [if_neg this]
        | false =>
          dsimp only
          refine ih ?_
          rw [List.any_cons, decide_eq_false h1, Bool.false_or] at hm
          exact hm
  · rw [if_neg hm, List.find?_append]
    by_cases h2 : k' = k
    · rw [if_pos h2, h2]
      have : kvs.find? (fun kv => decide (kv.1 = k)) = none := List.find?_eq_none.mpr fun a ha z => hm (List.any_eq_true.mpr ⟨a, ha, z⟩)
      rw [this]
      simp
    · rw [if_neg h2]
      have : ([(k, v)] : List (Key × D)).find? (fun kv => decide (kv.1 = k')) = none := by
        rw [List.find?_cons, decide_eq_false (fun z => h2 z.symm)]
        rfl
      rw [this, Option.or_none]
theorem val_drop {kvs : List (Key × D)} {k k' : Key} : valD (dropD kvs k) k' = if k' = k then none else valD kvs k' := by
  unfold valD dropD
  rw [List.find?_filter]
  by_cases h : k' = k
  · rw [if_pos h, List.find?_eq_none.mpr]
    · rfl
    · intro a _ z
      rw [h] at z
      simp at z
  · rw [if_neg h]
    congr 2
    funext a
    by_cases h2 : a.1 = k'
    · simp [h2, h]
    · simp [h2]
theorem get_plus {S xs : Sto} {j : Nat} : (S ++ xs)[S.length + j]? = xs[j]? := by
  rw [List.getElem?_append_right (Nat.le_add_right _ _), Nat.add_sub_cancel_left]
theorem set_plus {S xs : Sto} {j : Nat} {o : O} : (S ++ xs).set (S.length + j) o = S ++ xs.set j o := by
  rw [List.set_append_right _ _ (Nat.le_add_right _ _), Nat.add_sub_cancel_left]
theorem set_same {S : Sto} {i : Nat} {o : O} (h : S[i]? = some o) : S.set i o = S := by
  obtain ⟨a1, a2⟩ := List.getElem?_eq_some_iff.mp h
  rw [← a2, List.set_getElem_self]
/-! ### a memory, its names, the law's shapes (k46, k47, k48) -/
theorem valD_rng {n : Nat} {f : Nat → Key} {g : Nat → D} (inj : ∀ i j, i < n → j < n → f i = f j → i = j) {k : Nat} (hk : k < n) : valD ((List.range n).map fun k => (f k, g k)) (f k) = some (g k) := by
  unfold valD
  cases h : ((List.range n).map fun k => (f k, g k)).find? fun kv => decide (kv.1 = f k) with
  | none =>
    rw [List.find?_eq_none] at h
    exact absurd (decide_eq_true rfl) (h (f k, g k) (List.mem_map.mpr ⟨k, List.mem_range.mpr hk, rfl⟩))
  | some kv =>
    obtain ⟨j, hj, rfl⟩ := List.mem_map.mp (List.mem_of_find?_eq_some h)
    have e0 : decide ((f j, g j).1 = f k) = true := List.find?_some (p := fun kv : Key × D => decide (kv.1 = f k)) h
    have e : f j = f k := of_decide_eq_true e0
    rw [inj j k (List.mem_range.mp hj) hk e]
    rfl
theorem valD_nil {kvs : List (Key × D)} {k : Key} (h : ∀ kv ∈ kvs, kv.1 ≠ k) : valD kvs k = none := by
  unfold valD
  rw [List.find?_eq_none.mpr fun kv hk => by simpa using h kv hk]
  rfl
theorem valD_mem {kvs : List (Key × D)} {k : Key} {d : D} (h : valD kvs k = some d) : (k, d) ∈ kvs := by
  unfold valD at h
  obtain ⟨kv, h1, rfl⟩ := Option.map_eq_some_iff.mp h
  have e0 : decide (kv.1 = k) = true := List.find?_some (p := fun kv : Key × D => decide (kv.1 = k)) h1
  have := of_decide_eq_true e0
  rw [← this]
  exact List.mem_of_find?_eq_some h1
theorem putD_new {kvs : List (Key × D)} {k : Key} {v : D} (h : ∀ kv ∈ kvs, kv.1 ≠ k) : putD kvs k v = kvs ++ [(k, v)] := by
  unfold putD
  rw [if_neg fun z => by
    obtain ⟨kv, h1, h2⟩ := List.any_eq_true.mp z
    exact h kv h1 (of_decide_eq_true h2)]
theorem putD_mem {kvs : List (Key × D)} {k : Key} {v : D} {kv : Key × D} (h : kv ∈ putD kvs k v) : kv = (k, v) ∨ kv ∈ kvs := by
  unfold putD at h
  split at h
  · obtain ⟨a, ha, rfl⟩ := List.mem_map.mp h
    by_cases z : a.1 = k
    · rw [if_pos z, z]; exact .inl rfl
    · rw [if_neg z]; exact .inr ha
  · rcases List.mem_append.mp h with h | h
    · exact .inr h
    · exact .inl (List.mem_singleton.mp h)
theorem putD_len {kvs : List (Key × D)} {k : Key} {v : D} : (putD kvs k v).length ≤ kvs.length + 1 := by
  unfold putD
  split <;> simp
theorem dropD_mem {kvs : List (Key × D)} {k : Key} {kv : Key × D} (h : kv ∈ dropD kvs k) : kv ∈ kvs := (List.mem_filter.mp h).1
theorem dropD_len {kvs : List (Key × D)} {k : Key} : (dropD kvs k).length ≤ kvs.length := List.length_filter_le _ _
abbrev stT : D := .tup [.loc 0, .loc 1, .loc 2]
def shK (n : Nat) (B : Nat → Ent) (li : Nat → Nat) : List (Key × D) := (List.range n).map fun k => (.inl (plc B k), .tup [.str (B k).t.s.nm, .loc (li k)])
theorem shK_len {n : Nat} {B : Nat → Ent} {li : Nat → Nat} : (shK n B li).length = n := by unfold shK; simp
abbrev pT (B : Nat → Ent) (k : Nat) : D := .tup [.str "thing", .int (plc B k)]
abbrev nT : D := .tup [.str "nothing"]
structure W6 (S : Sto) (n : Nat) (B : Nat → Ent) (li : Nat → Nat) (kvs : List (Key × D)) (c : Nat) (xs : List D) (dk : Nat → Bool) (mo : Option (Nat × Nat)) (gl : List Nat) : Prop where
  s0 : S[0]? = some (.dct false (shK n B li))
  s1 : S[1]? = some (.dct false kvs)
  M : MemAt S 2 3 4 6 16 xs
  lay : Lay xs 6 16 (entL n (Ed B dk))
  fl : ∀ k, k < n → S[li k]? = some (.lst (B k).t.fs)
  lj : ∀ i j, i < n → j < n → li i = li j → i = j
  l4 : ∀ k, k < n → li k ≠ 4
  sl : ∀ kv ∈ kvs, ∃ i k : Nat, i < 5 ∧ k < n ∧ kv = (.inl (i : Int), .int (plc B k))
  cl : kvs.length ≤ c
  vs : ∀ k, k < n → ∀ v ∈ (B k).t.fs, v = nT ∨ ∃ j, j < n ∧ v = pT B j
  mkk : ∀ k q, mo = some (k, q) → S[k]? = some (mkO 2 q) ∧ S[q]? = some (.lst ((gl.map (plc B)).map .int)) ∧ q ≠ 4 ∧ ∀ i, i < n → li i ≠ q
  gk : ∀ k ∈ gl, k < n
  gs : gl.Nodup ∧ ∀ k ∈ gl, dk k = true
  nn : n ≤ 100
  cc : c ≤ 1000
section
variable {S : Sto} {n : Nat} {B : Nat → Ent} {li : Nat → Nat} {kvs : List (Key × D)} {c : Nat} {xs : List D} {dk : Nat → Bool} {mo : Option (Nat × Nat)} {gl : List Nat}
theorem W6.lo (h : W6 S n B li kvs c xs dk mo gl) {k : Nat} (hk : k < n) : li k ≠ 0 ∧ li k ≠ 1 ∧ li k ≠ 2 ∧ li k ≠ 3 := by
  have h1 := h.fl k hk
  refine ⟨fun z => ?_, fun z => ?_, fun z => ?_, fun z => ?_⟩
  · rw [z, h.s0] at h1; cases h1
  · rw [z, h.s1] at h1; cases h1
  · rw [z, h.M.ob] at h1; cases h1
  · rw [z, h.M.rm.obj] at h1; cases h1
theorem W6.qo (h : W6 S n B li kvs c xs dk mo gl) {k q : Nat} (hm : mo = some (k, q)) : (q ≠ 0 ∧ q ≠ 1 ∧ q ≠ 2 ∧ q ≠ 3) ∧ k ≠ 0 ∧ k ≠ 1 ∧ k ≠ 2 ∧ k ≠ 3 ∧ k ≠ 4 ∧ k ≠ q ∧ ∀ i, i < n → li i ≠ k := by
  obtain ⟨h1, h2, h3, h4⟩ := h.mkk k q hm
  refine ⟨⟨fun z => ?_, fun z => ?_, fun z => ?_, fun z => ?_⟩, fun z => ?_, fun z => ?_, fun z => ?_, fun z => ?_, fun z => ?_, fun z => ?_, fun i hi z => ?_⟩
  · rw [z, h.s0] at h2; cases h2
  · rw [z, h.s1] at h2; cases h2
  · rw [z, h.M.ob] at h2; cases h2
  · rw [z, h.M.rm.obj] at h2; cases h2
  · rw [z, h.s0] at h1; cases h1
  · rw [z, h.s1] at h1; cases h1
  · rw [z, h.M.ob] at h1; cases h1
  · rw [z, h.M.rm.obj] at h1; cases h1
  · rw [z, h.M.rm.ins] at h1; cases h1
  · rw [z, h2] at h1; cases h1
  · have := h.fl i hi; rw [z, h1] at this; cases this
theorem W6.app {T : Sto} (h : W6 S n B li kvs c xs dk mo gl) : W6 (S ++ T) n B li kvs c xs dk mo gl := ⟨get_app h.s0, get_app h.s1, h.M.app, h.lay, fun k hk => get_app (h.fl k hk), h.lj, h.l4, h.sl, h.cl, h.vs, fun k q e => by
  obtain ⟨h1, h2, h3, h4⟩ := h.mkk k q e
  exact ⟨get_app h1, get_app h2, h3, h4⟩, h.gk, h.gs, h.nn, h.cc⟩
theorem W6.inj (h : W6 S n B li kvs c xs dk mo gl) : ∀ i j, i < n → j < n → (.inl (plc B i) : Key) = .inl (plc B j) → i = j := fun i j hi hj e => by
  injection e with e
  exact h.lay.inj hi hj (Int.ofNat.inj e)
theorem W6.at0 (h : W6 S n B li kvs c xs dk mo gl) {k : Nat} (hk : k < n) : valD (shK n B li) (.inl (plc B k)) = some (.tup [.str (B k).t.s.nm, .loc (li k)]) := valD_rng (f := fun k => .inl (plc B k)) h.inj hk
theorem W6.at1 (h : W6 S n B li kvs c xs dk mo gl) (i : Int) : valD kvs (.inl i) = none ∨ ∃ k, k < n ∧ valD kvs (.inl i) = some (.int (plc B k)) := by
  cases e : valD kvs (.inl i) with
  | none => exact .inl rfl
  | some d =>
    obtain ⟨j, k, _, hk, e2⟩ := h.sl _ (valD_mem e)
    injection e2 with _ e2
    exact .inr ⟨k, hk, by rw [e2]⟩
/-- the names are changed -/
theorem W6.set1 (h : W6 S n B li kvs c xs dk mo gl) {kvs' : List (Key × D)} {c' : Nat} (sl : ∀ kv ∈ kvs', ∃ i k : Nat, i < 5 ∧ k < n ∧ kv = (.inl (i : Int), .int (plc B k))) (cl : kvs'.length ≤ c') (cc : c' ≤ 1000) : W6 (S.set 1 (.dct false kvs')) n B li kvs' c' xs dk mo gl :=
  ⟨by rw [List.getElem?_set_ne (by decide)]; exact h.s0, by rw [List.getElem?_set_self (get_lt h.s1)], h.M.oth (by decide) (by decide) (by decide), h.lay, fun k hk => by rw [List.getElem?_set_ne (h.lo hk).2.1.symm]; exact h.fl k hk, h.lj, h.l4, sl, cl, h.vs, fun k q e => by
    obtain ⟨h1, h2, h3, h4⟩ := h.mkk k q e
    obtain ⟨q1, k0, k1, _⟩ := h.qo e
    exact ⟨by rw [List.getElem?_set_ne k1.symm]; exact h1, by rw [List.getElem?_set_ne q1.2.1.symm]; exact h2, h3, h4⟩, h.gk, h.gs, h.nn, cc⟩
theorem W6.drop1 (h : W6 S n B li kvs c xs dk mo gl) (k : Key) : W6 (S.set 1 (.dct false (dropD kvs k))) n B li (dropD kvs k) c xs dk mo gl := h.set1 (fun kv hk => h.sl kv (dropD_mem hk)) (Nat.le_trans dropD_len h.cl) h.cc
theorem W6.put1 (h : W6 S n B li kvs c xs dk mo gl) {i k : Nat} (hi : i < 5) (hk : k < n) (hc : c < 1000) : W6 (S.set 1 (.dct false (putD kvs (.inl (i : Int)) (.int (plc B k))))) n B li (putD kvs (.inl (i : Int)) (.int (plc B k))) (c + 1) xs dk mo gl :=
  h.set1 (fun kv hm => (putD_mem hm).elim (fun e => ⟨i, k, hi, hk, e⟩) (h.sl kv)) (by have := putD_len (kvs := kvs) (k := .inl (i : Int)) (v := .int (plc B k)); have := h.cl; omega) (by omega)
theorem W6.gl_len (h : W6 S n B li kvs c xs dk mo gl) : gl.length ≤ 100 := by
  have p : gl.Perm ((List.range n).filter fun x => decide (x ∈ gl)) := (List.perm_ext_iff_of_nodup h.gs.1 (List.nodup_range.filter _)).mpr fun x => by
    rw [List.mem_filter]
    exact ⟨fun z => ⟨List.mem_range.mpr (h.gk x z), decide_eq_true z⟩, fun z => of_decide_eq_true z.2⟩
  rw [p.length_eq]
  have h1 := List.length_filter_le (fun x => decide (x ∈ gl)) (List.range n)
  rw [List.length_range] at h1
  have := h.nn
  omega
theorem shd_nd {s : (Nat → Bool) × List Nat} {k : Nat} (h : s.2.Nodup ∧ ∀ i ∈ s.2, s.1 i = true) : (shd s k).2.Nodup ∧ ∀ i ∈ (shd s k).2, (shd s k).1 i = true := by
  unfold shd
  by_cases e : s.1 k = true
  · rw [if_pos e]; exact h
  · rw [if_neg e]
    refine ⟨?_, fun i hi => ?_⟩
    · rw [List.nodup_append]
      exact ⟨h.1, by simp, fun a ha b hb => by rw [List.mem_singleton.mp hb]; exact fun z => e (by rw [← z]; exact h.2 a ha)⟩
    · dsimp only
      split
      · rfl
      · rename_i z
        rcases List.mem_append.mp hi with q | q
        · exact h.2 i q
        · exact absurd (List.mem_singleton.mp q) z
theorem fold_nd {hs : List Nat} : ∀ {s : (Nat → Bool) × List Nat}, (s.2.Nodup ∧ ∀ i ∈ s.2, s.1 i = true) → (hs.foldl shd s).2.Nodup ∧ ∀ i ∈ (hs.foldl shd s).2, (hs.foldl shd s).1 i = true := by
  induction hs with
  | nil => intro s h; exact h
  | cons k hs ih => intro s h; rw [List.foldl_cons]; exact ih (shd_nd h)
/-- with a marking -/
theorem W6.mg {k q : Nat} (h : W6 S n B li kvs c xs dk (some (k, q)) gl) : Mg S 2 3 4 k q 6 16 n B xs (dk, gl) := by
  obtain ⟨h1, h2, h3, h4⟩ := h.mkk k q rfl
  exact ⟨⟨h.M, h1, h2, h3, by rw [List.length_map]; have := h.gl_len; show gl.length ≤ _; omega⟩, h.lay, h.gk⟩
theorem W6.of_mg {k q : Nat} (h : W6 S n B li kvs c xs dk (some (k, q)) gl) {xs' : List D} {s : (Nat → Bool) × List Nat} (g : Mg (mkS S 4 q xs' (s.2.map (plc B))) 2 3 4 k q 6 16 n B xs' s) (hs : s.2.Nodup ∧ ∀ k ∈ s.2, s.1 k = true) : W6 (mkS S 4 q xs' (s.2.map (plc B))) n B li kvs c xs' s.1 (some (k, q)) s.2 := by
  obtain ⟨h1, h2, h3, h4⟩ := h.mkk k q rfl
  obtain ⟨q1, _⟩ := h.qo rfl
  have nm : ∀ {i : Nat} {o : O}, i ≠ 4 → i ≠ q → S[i]? = some o → (mkS S 4 q xs' (s.2.map (plc B)))[i]? = some o := fun a b e => by
    unfold mkS
    rw [List.getElem?_set_ne b.symm, List.getElem?_set_ne a.symm]
    exact e
  refine ⟨nm (by decide) q1.1.symm h.s0, nm (by decide) q1.2.1.symm h.s1, g.at_.M, g.lay, fun i hi => nm (h.l4 i hi) (h4 i hi) (h.fl i hi), h.lj, h.l4, h.sl, h.cl, h.vs, fun k' q' e => ?_, g.lt, hs, h.nn, h.cc⟩
  cases e
  exact ⟨g.at_.ob, g.at_.ln, h3, h4⟩
theorem W6.shade {k q : Nat} (h : W6 S n B li kvs c xs dk (some (k, q)) gl) {j : Nat} (hj : j < n) : ∃ xs', W6 (mkS S 4 q xs' ((shd (dk, gl) j).2.map (plc B))) n B li kvs c xs' (shd (dk, gl) j).1 (some (k, q)) (shd (dk, gl) j).2 ∧
    f_Marking_shade [.loc k, .int (plc B j)] S = .ok .non (mkS S 4 q xs' ((shd (dk, gl) j).2.map (plc B))) := by
  obtain ⟨xs', _, g, e⟩ := shade_spec h.mg hj (by have := h.gl_len; show gl.length < _; omega)
  exact ⟨xs', h.of_mg g (shd_nd h.gs), e⟩
end

set_option Elab.async false
set_option linter.all false
set_option maxRecDepth 100000
set_option maxHeartbeats 4000000
/-! ### deeds on the memory: give, make -/
theorem Cld.set {S S1 : Sto} (h : Cld S S1) {i : Nat} {o : O} (ho : o.low S.length = true) : Cld S (S1.set i o) := by
  refine ⟨by rw [List.length_set]; exact h.1, fun j hj => ?_⟩
  by_cases z : i = j
  · subst z
    exact .inr ⟨o, List.getElem?_set_self (by have := h.1; omega), ho⟩
  · rw [List.getElem?_set_ne z]; exact h.2 j hj
/-- the changed store, as long as it was -/
theorem exit_same {S S' : Sto} (h : Cld S S') (hl : S'.length = S.length) : exitR false S (.ok .non S') = .ok .non S' := by
  rw [exit_ok h]
  show exK S.length S' none (fzD S' S.length 8 .non) = _
  rw [show fzD S' S.length 8 .non = some .non from fz_pure rfl]
  show Res.ok D.non (S'.take S.length) = _
  rw [← hl, List.take_length]
section
variable {S : Sto} {n : Nat} {B : Nat → Ent} {li : Nat → Nat} {kvs : List (Key × D)} {c : Nat} {xs : List D} {dk : Nat → Bool} {mo : Option (Nat × Nat)} {gl : List Nat}
theorem W6.low0 (h : W6 S n B li kvs c xs dk mo gl) : (O.dct false (shK n B li)).low S.length = true := by
  show lowAll S.length ((shK n B li).map (·.2)) = true
  refine lowAll_mem.mpr fun x hx => ?_
  obtain ⟨kv, h1, rfl⟩ := List.mem_map.mp hx
  obtain ⟨k, hk, rfl⟩ := List.mem_map.mp h1
  have := get_lt (h.fl k (List.mem_range.mp hk))
  simp only [D.low, lowAll, Bool.and_true, Bool.true_and, decide_eq_true_eq]
  exact this
theorem W6.low1 (h : W6 S n B li kvs c xs dk mo gl) : (O.dct false kvs).low S.length = true := low_dct (pureAll_mem.mpr fun x hx => by
  obtain ⟨kv, h1, rfl⟩ := List.mem_map.mp hx
  obtain ⟨i, k, _, _, rfl⟩ := h.sl kv h1
  rfl)
theorem W6.low4 (h : W6 S n B li kvs c xs dk mo gl) : (O.lst xs).low S.length = true := low_lst h.lay.pure
theorem give_no (h : W6 S n B li kvs c xs dk mo gl) (i : Nat) : f_law_give [stT, .int (i : Int), nT] S = .ok .non (S.set 1 (.dct false (dropD kvs (.inl (i : Int))))) := by
  have h1 := h.s1
  unfold f_law_give b_law_give
  simp! only [h1]
theorem give_th (h : W6 S n B li kvs c xs dk mo gl) (i k : Nat) : f_law_give [stT, .int (i : Int), pT B k] S = .ok .non (S.set 1 (.dct false (putD (dropD kvs (.inl (i : Int))) (.inl (i : Int)) (.int (plc B k))))) := by
  have h1 := h.s1
  have h2 := (h.drop1 (.inl (i : Int))).s1
  have lk : ((dropD kvs (.inl (i : Int))).length < sizeLine) = True := lt_line (by have := dropD_len (kvs := kvs) (k := .inl (i : Int)); have := h.cl; have := h.cc; omega)
  unfold f_law_give b_law_give
  simp! only [h1, h2, lk, List.set_set]
theorem shK_snoc {g p : Nat} {t : Th} {z : Int} {mb : Bool} : shK (n + 1) (upE B n ⟨g, t, z, mb⟩) (fun k => if k = n then p else li k) = shK n B li ++ [(.inl (g : Int), .tup [.str t.s.nm, .loc p])] := by
  unfold shK
  rw [List.range_succ, List.map_append]
  congr 1
  · refine List.map_congr_left fun k hk => ?_
    have := List.mem_range.mp hk
    have e : upE B n ⟨g, t, z, mb⟩ k = B k := if_neg (by omega)
    unfold plc
    dsimp only
    rw [e, if_neg (by omega)]
  · have e : upE B n ⟨g, t, z, mb⟩ n = ⟨g, t, z, mb⟩ := if_pos rfl
    simp only [List.map_cons, List.map_nil, if_true]
    unfold plc
    rw [e]
theorem upE_n {e : Ent} : upE B n e n = e := if_pos rfl
theorem upE_lt {e : Ent} {k : Nat} (h : k < n) : upE B n e k = B k := if_neg (by omega)
theorem plc_lt {e : Ent} {k : Nat} (h : k < n) : plc (upE B n e) k = plc B k := by unfold plc; rw [upE_lt h]
/-- a new thing -/
theorem W6.new (h : W6 S n B li kvs c xs dk mo gl) {t : Th} {g p : Nat} {mb : Bool} (hf : Fit xs 6 16 g t.size) (ok : t.Ok) (hp : S[p]? = some (.lst t.fs)) (fp : ∀ k, k < n → li k ≠ p) (p4 : p ≠ 4) (pq : ∀ k q, mo = some (k, q) → p ≠ q) (vs : ∀ v ∈ t.fs, v = nT ∨ ∃ j, j < n ∧ v = pT B j)
    {i : Nat} (hi : i < 5) (hn : n < 100) (hc : c < 1000) :
    W6 (((S.set 4 (.lst (fillL xs g (t.cells (1 + (n : Int)) mb)))).set 0 (.dct false (shK (n + 1) (upE B n ⟨g, t, 1 + (n : Int), mb⟩) (fun k => if k = n then p else li k)))).set 1 (.dct false (putD kvs (.inl (i : Int)) (.int (g : Int)))))
      (n + 1) (upE B n ⟨g, t, 1 + (n : Int), mb⟩) (fun k => if k = n then p else li k) (putD kvs (.inl (i : Int)) (.int (g : Int))) (c + 1) (fillL xs g (t.cells (1 + (n : Int)) mb)) (fun k => if k = n then mb else dk k) mo gl := by
  have lay' := h.lay.putK h.M.rm.len ok (m := 1 + (n : Int)) (b := mb) hf
  have eE : upE (Ed B dk) n ⟨g, t, 1 + (n : Int), mb⟩ = Ed (upE B n ⟨g, t, 1 + (n : Int), mb⟩) (fun k => if k = n then mb else dk k) := by
    funext k
    unfold upE Ed
    by_cases z : k = n
    · simp [z]
    · simp [z]
  rw [eE] at lay'
  have hl0 := get_lt h.s0
  have hl1 := get_lt h.s1
  have hl4 := get_lt h.M.rm.ins
  have po : p ≠ 0 ∧ p ≠ 1 := ⟨fun z => (by rw [z, h.s0] at hp; cases hp), fun z => (by rw [z, h.s1] at hp; cases hp)⟩
  have glm : gl.map (plc (upE B n ⟨g, t, 1 + (n : Int), mb⟩)) = gl.map (plc B) := List.map_congr_left fun k hk => plc_lt (h.gk k hk)
  refine ⟨?_, ?_, ((h.M.upd fillL_len).oth (by decide) (by decide) (by decide)).oth (by decide) (by decide) (by decide), lay', fun k hk => ?_, fun a b ha hb e => ?_, fun k hk => ?_, fun kv hm => ?_, ?_, fun k hk v hv => ?_, fun k q e => ?_, fun k hk => ?_, ⟨h.gs.1, fun k hk => by have := h.gk k hk; rw [if_neg (by omega)]; exact h.gs.2 k hk⟩, by omega, by omega⟩
  · rw [List.getElem?_set_ne (by decide), List.getElem?_set_self (by rw [List.length_set]; exact hl0)]
  · rw [List.getElem?_set_self (by rw [List.length_set, List.length_set]; exact hl1)]
  · by_cases z : k = n
    · subst z
      rw [if_pos rfl, upE_n, List.getElem?_set_ne po.2.symm, List.getElem?_set_ne po.1.symm, List.getElem?_set_ne p4.symm]
      exact hp
    · have hk' : k < n := by omega
      obtain ⟨q0, q1, _⟩ := h.lo hk'
      rw [if_neg z, upE_lt hk', List.getElem?_set_ne q1.symm, List.getElem?_set_ne q0.symm, List.getElem?_set_ne (h.l4 k hk').symm]
      exact h.fl k hk'
  · by_cases z : a = n
    · by_cases w : b = n
      · rw [z, w]
      · rw [if_pos z, if_neg w] at e
        exact absurd e.symm (fp b (by omega))
    · by_cases w : b = n
      · rw [if_neg z, if_pos w] at e
        exact absurd e (fp a (by omega))
      · rw [if_neg z, if_neg w] at e
        exact h.lj a b (by omega) (by omega) e
  · split
    · exact p4
    · exact h.l4 k (by omega)
  · rcases putD_mem hm with rfl | hm
    · exact ⟨i, n, hi, by omega, by unfold plc; rw [upE_n]⟩
    · obtain ⟨j, k, hj, hk, rfl⟩ := h.sl kv hm
      exact ⟨j, k, hj, by omega, by rw [plc_lt hk]⟩
  · have := putD_len (kvs := kvs) (k := .inl (i : Int)) (v := .int (g : Int)); have := h.cl; omega
  · by_cases z : k = n
    · subst z
      rw [upE_n] at hv
      rcases vs v hv with e | ⟨j, hj, e⟩
      · exact .inl e
      · exact .inr ⟨j, by omega, by rw [e]; unfold pT; rw [plc_lt hj]⟩
    · have hk' : k < n := by omega
      rw [upE_lt hk'] at hv
      rcases h.vs k hk' v hv with e | ⟨j, hj, e⟩
      · exact .inl e
      · exact .inr ⟨j, by omega, by rw [e]; unfold pT; rw [plc_lt hj]⟩
  · obtain ⟨h1, h2, h3, h4⟩ := h.mkk k q e
    obtain ⟨⟨a0, a1, _⟩, b0, b1, _, _, b4, _⟩ := h.qo e
    rw [glm]
    refine ⟨by rw [List.getElem?_set_ne b1.symm, List.getElem?_set_ne b0.symm, List.getElem?_set_ne b4.symm]; exact h1, by rw [List.getElem?_set_ne a1.symm, List.getElem?_set_ne a0.symm, List.getElem?_set_ne h3.symm]; exact h2, h3, fun j hj => ?_⟩
    split
    · exact pq k q e
    · exact h4 j (by omega)
  · have := h.gk k hk; omega
theorem made_spec (h : W6 S n B li kvs c xs dk mo gl) {t : Th} (ok : t.Ok) {p : Nat} (hp : S[p]? = some (.lst t.fs)) (fp : ∀ k, k < n → li k ≠ p) (p4 : p ≠ 4) (pq : ∀ k q, mo = some (k, q) → p ≠ q) (vs : ∀ v ∈ t.fs, v = nT ∨ ∃ j, j < n ∧ v = pT B j)
    {i : Nat} (hi : i < 5) (hn : n < 100) (hc : c < 1000) (mb : Bool) :
    (∃ g, Fit xs 6 16 g t.size ∧ f_law_made [stT, t.v, .tup [.str t.s.nm, .loc p], .int (i : Int), .bl mb] S = .ok .non (((S.set 4 (.lst (fillL xs g (t.cells (1 + (n : Int)) mb)))).set 0 (.dct false (shK (n + 1) (upE B n ⟨g, t, 1 + (n : Int), mb⟩) (fun k => if k = n then p else li k)))).set 1 (.dct false (putD kvs (.inl (i : Int)) (.int (g : Int)))))) ∨
    f_law_made [stT, t.v, .tup [.str t.s.nm, .loc p], .int (i : Int), .bl mb] S = .ok .non S := by
  have pi := put_in_spec h.M ok (1 + (n : Int)) mb
  have gp := gapF_is xs 6 16 t.size
  have h0 := h.s0
  have h1 := h.s1
  have hm := h.M.ob
  unfold f_law_made b_law_made
  cases hg : gapF xs 6 16 t.size with
  | none =>
    rw [hg] at pi
    refine .inr ?_
    have q : exitR false S (.ok .non S) = .ok .non S := exit_same cld_self rfl
    simp! only [h0, shK_len, hm, pi, q]
  | some g =>
    rw [hg] at pi gp
    have hf : Fit xs 6 16 g t.size := gp.1
    refine .inl ⟨g, hf, ?_⟩
    have st := h.new (mb := mb) hf ok hp fp p4 pq vs hi hn hc
    have lay' := st.lay
    have nw : ∀ kv ∈ shK n B li, kv.1 ≠ .inl (g : Int) := fun kv hk z => by
      obtain ⟨k, hk', rfl⟩ := List.mem_map.mp hk
      have hk := List.mem_range.mp hk'
      injection z with z
      have := lay'.inj (i := k) (j := n) (by omega) (by omega) (by
        show (upE B n _ k).p = (upE B n _ n).p
        rw [upE_n, upE_lt hk]
        exact Int.ofNat.inj z)
      omega
    have pd := putD_new (v := .tup [.str t.s.nm, .loc p]) nw
    rw [← shK_snoc (z := 1 + (n : Int)) (mb := mb)] at pd
    have l0 : (n < sizeLine) = True := lt_line (by omega)
    have l1 : (kvs.length < sizeLine) = True := lt_line (by have := h.cl; omega)
    have g0 : (S.set 4 (.lst (fillL xs g (t.cells (1 + (n : Int)) mb))))[0]? = some (.dct false (shK n B li)) := by rw [List.getElem?_set_ne (by decide)]; exact h0
    have g1 : ((S.set 4 (.lst (fillL xs g (t.cells (1 + (n : Int)) mb)))).set 0 (.dct false (shK (n + 1) (upE B n ⟨g, t, 1 + (n : Int), mb⟩) (fun k => if k = n then p else li k))))[1]? = some (.dct false kvs) := by rw [List.getElem?_set_ne (by decide), List.getElem?_set_ne (by decide)]; exact h1
    have q := exit_same (((cld_self (S := S).set (i := 4) (by have := st.low4; simpa using this)).set (i := 0) (by have := st.low0; simpa using this)).set (i := 1) (by have := st.low1; simpa using this)) (by simp)
    simp! only [h0, shK_len, hm, pi, g0, l0, pd, g1, l1, q]
end

set_option Elab.async false
set_option linter.all false
set_option maxRecDepth 100000
set_option maxHeartbeats 4000000
/-! ### deeds: a new thing, what is brought, a put -/
abbrev pP (w a b e d : Nat) : D := .vl [.int (w : Int), .int (a : Int), .int (b : Int), .int (e : Int), .int (d : Int)]
def Nmd (kvs : List (Key × D)) (B : Nat → Ent) (j : Nat) : Prop := ∃ i : Int, valD kvs (.inl i) = some (.int (plc B j))
def Fr46 (S S' : Sto) (n : Nat) (li : Nat → Nat) (mo : Option (Nat × Nat)) : Prop := S.length ≤ S'.length ∧ ∀ i, i < S.length → i ≠ 0 → i ≠ 1 → i ≠ 4 → (∀ k q, mo = some (k, q) → i ≠ q) → (∀ k, k < n → li k ≠ i) → S'[i]? = S[i]?
theorem Fr46.app {S T : Sto} {n : Nat} {li : Nat → Nat} {mo : Option (Nat × Nat)} : Fr46 S (S ++ T) n li mo := ⟨by simp, fun i hi _ _ _ _ _ => List.getElem?_append_left hi⟩
theorem Fr46.refl {S : Sto} {n : Nat} {li : Nat → Nat} {mo : Option (Nat × Nat)} : Fr46 S S n li mo := ⟨Nat.le_refl _, fun _ _ _ _ _ _ _ => rfl⟩
theorem Fr46.trans {S S1 S2 : Sto} {n : Nat} {li : Nat → Nat} {mo : Option (Nat × Nat)} (h1 : Fr46 S S1 n li mo) (h2 : Fr46 S1 S2 n li mo) : Fr46 S S2 n li mo := ⟨Nat.le_trans h1.1 h2.1, fun i hi a b c d e => (h2.2 i (by have := h1.1; omega) a b c d e).trans (h1.2 i hi a b c d e)⟩
theorem Fr46.set {S S1 : Sto} {n : Nat} {li : Nat → Nat} {mo : Option (Nat × Nat)} (h : Fr46 S S1 n li mo) {p : Nat} {o : O} (hp : p = 0 ∨ p = 1 ∨ p = 4 ∨ (∃ k q, mo = some (k, q) ∧ p = q) ∨ ∃ k, k < n ∧ li k = p) : Fr46 S (S1.set p o) n li mo := ⟨by rw [List.length_set]; exact h.1, fun i hi a b c d e => by
  rw [List.getElem?_set_ne]
  · exact h.2 i hi a b c d e
  · intro z
    rcases hp with hp | hp | hp | ⟨k, q, e1, hp⟩ | ⟨k, hk, hp⟩
    · exact a (by rw [← z, hp])
    · exact b (by rw [← z, hp])
    · exact c (by rw [← z, hp])
    · exact d k q e1 (by rw [← z, hp])
    · exact e k hk (by rw [hp, z])⟩
structure NewAt (S S' : Sto) (n : Nat) (B : Nat → Ent) (li : Nat → Nat) (kvs : List (Key × D)) (c : Nat) (dk : Nat → Bool) (mo : Option (Nat × Nat)) (gl : List Nat) (a : Nat) (mb : Bool) : Prop where
  ex : ∃ (t : Th) (g p : Nat) (xs : List D), W6 S' (n + 1) (upE B n ⟨g, t, 1 + (n : Int), mb⟩) (fun k => if k = n then p else li k) (putD kvs (.inl (a : Int)) (.int (g : Int))) (c + 1) xs (fun k => if k = n then mb else dk k) mo gl ∧ t.Ok ∧
    (∀ v ∈ t.fs, v = nT ∨ ∃ j, j < n ∧ v = pT B j ∧ Nmd kvs B j)
  fr : Fr46 S S' n li mo
section
variable {S : Sto} {n : Nat} {B : Nat → Ent} {li : Nat → Nat} {kvs : List (Key × D)} {c : Nat} {xs : List D} {dk : Nat → Bool} {mo : Option (Nat × Nat)} {gl : List Nat}
theorem W6.at1' (h : W6 S n B li kvs c xs dk mo gl) (i : Int) : valD kvs (.inl i) = none ∨ ∃ k, k < n ∧ valD kvs (.inl i) = some (.int (plc B k)) ∧ Nmd kvs B k := by
  rcases h.at1 i with e | ⟨k, hk, e⟩
  · exact .inl e
  · exact .inr ⟨k, hk, e, _, e⟩
theorem make_at (h : W6 S n B li kvs c xs dk mo gl) {t : Th} (ok : t.Ok) (vs : ∀ v ∈ t.fs, v = nT ∨ ∃ j, j < n ∧ v = pT B j ∧ Nmd kvs B j) {a : Nat} (ha : a < 5) (hn : n < 100) (hc : c < 1000) (mb : Bool) :
    ∃ S', f_law_made [stT, t.v, .tup [.str t.s.nm, .loc S.length], .int (a : Int), .bl mb] (S ++ [.lst t.fs]) = .ok .non S' ∧ (S' = S ++ [.lst t.fs] ∨ NewAt S S' n B li kvs c dk mo gl a mb) := by
  have h' := h.app (T := [.lst t.fs])
  have l1 : ∀ k, k < n → li k ≠ S.length := fun k hk z => by have := get_lt (h.fl k hk); omega
  have l2 : S.length ≠ 4 := fun z => by have := get_lt h.M.rm.ins; omega
  have l3 : ∀ k q, mo = some (k, q) → S.length ≠ q := fun k q e z => by have := get_lt (h.mkk k q e).2.1; omega
  have vs' : ∀ v ∈ t.fs, v = nT ∨ ∃ j, j < n ∧ v = pT B j := fun v hv => (vs v hv).imp id fun ⟨j, a, b, _⟩ => ⟨j, a, b⟩
  rcases made_spec h' ok (get_last _ _) l1 l2 l3 vs' ha hn hc mb with ⟨g, hf, e⟩ | e
  · refine ⟨_, e, .inr ⟨⟨t, g, S.length, _, h'.new hf ok (get_last _ _) l1 l2 l3 vs' ha hn hc, ok, vs⟩, ?_⟩⟩
    exact ((Fr46.app.set (.inr (.inr (.inl rfl)))).set (.inl rfl)).set (.inr (.inl rfl))
  · exact ⟨_, e, .inl rfl⟩
theorem new_spec (h : W6 S n B li kvs c xs dk mo gl) {w a b e d : Nat} (hw : w < 3) (ha : a < 5) (hd : d < 4) (hn : n < 100) (hc : c < 1000) (mb : Bool) :
    ∃ S', f_law_new [stT, pP w a b e d, .bl mb] S = .ok .non S' ∧ ((∃ G, S' = S ++ G) ∨ NewAt S S' n B li kvs c dk mo gl a mb) := by
  have h1 := h.s1
  have w3 : w = 0 ∨ w = 1 ∨ w = 2 := by omega
  unfold f_law_new b_law_new
  rcases w3 with rfl | rfl | rfl
  · have rp : pureAll (reps d nT) = true := pureAll_mem.mpr fun x hx => by rw [(List.mem_replicate.mp hx).2]; rfl
    have ok : Th.Ok ⟨.plain, reps d nT, none⟩ := ⟨fun x hx => by rw [(List.mem_replicate.mp hx).2]; exact .no, by show (reps d nT).length ≤ 1000; rw [reps_len]; omega, fun z => (by cases z), fun z => (by cases z), fun _ => rfl⟩
    have r1 : ∀ S, repL false [nT] (.int (d : Int)) S = .ok (.vl (reps d nT)) S := fun S => (repL_nat (by omega)).trans (newL_f rp)
    have r2 : ∀ S, repL true [nT] (.int (d : Int)) S = .ok (.loc S.length) (S ++ [.lst (reps d nT)]) := fun S => repL_nat (by omega)
    have p1 : ∀ S, f_plain [.vl (reps d nT), .non] S = .ok (Th.v ⟨.plain, reps d nT, none⟩) S := fun S => plain_spec (w := none) rfl rp
    obtain ⟨S', e1, e2⟩ := make_at h ok (fun v hv => .inl (List.mem_replicate.mp hv).2) ha hn hc mb
    simp only [Srt.nm] at e1
    refine ⟨S', ?_, e2.imp (fun z => ⟨_, z⟩) id⟩
    have d0 : decide (((0 : Nat) : Int) = 0) = true := by decide
    simp! only [d0, r1, r2, p1, e1]
  · have d10 : decide (((1 : Nat) : Int) = 0) = false := by decide
    have d11 : decide (((1 : Nat) : Int) = 1) = true := by decide
    have d12 : decide (((1 : Nat) : Int) = 2) = false := by decide
    rcases h.at1' (b : Int) with vb | ⟨j, hj, vb, nj⟩
    · refine ⟨S, ?_, .inl ⟨[], by simp⟩⟩
      simp! only [d10, d11, d12, h1, vb, Option.isSome_none, Option.isSome_some]
    · rcases h.at1' (e : Int) with ve | ⟨i, hi, ve, ni⟩
      · have ok : Th.Ok ⟨.pair, [pT B j, nT], none⟩ := ⟨fun x hx => by
          simp only [List.mem_cons, List.not_mem_nil, or_false] at hx
          rcases hx with rfl | rfl
          · exact .th _
          · exact .no, by simp, fun z => (by cases z), fun _ => rfl, fun _ => rfl⟩
        have p1 : ∀ S, f_pair [pT B j, nT] S = .ok (Th.v ⟨.pair, [pT B j, nT], none⟩) S := fun S => pair_spec rfl rfl
        obtain ⟨S', e1, e2⟩ := make_at h ok (fun v hv => by
          simp only [List.mem_cons, List.not_mem_nil, or_false] at hv
          rcases hv with rfl | rfl
          · exact .inr ⟨j, hj, rfl, nj⟩
          · exact .inl rfl) ha hn hc mb
        simp only [Srt.nm] at e1
        refine ⟨S', ?_, e2.imp (fun z => ⟨_, z⟩) id⟩
        simp! only [d10, d11, d12, h1, vb, ve, Option.isSome_none, Option.isSome_some, p1, e1]
      · have ok : Th.Ok ⟨.pair, [pT B j, pT B i], none⟩ := ⟨fun x hx => by
          simp only [List.mem_cons, List.not_mem_nil, or_false] at hx
          rcases hx with rfl | rfl
          · exact .th _
          · exact .th _, by simp, fun z => (by cases z), fun _ => rfl, fun _ => rfl⟩
        have p1 : ∀ S, f_pair [pT B j, pT B i] S = .ok (Th.v ⟨.pair, [pT B j, pT B i], none⟩) S := fun S => pair_spec rfl rfl
        obtain ⟨S', e1, e2⟩ := make_at h ok (fun v hv => by
          simp only [List.mem_cons, List.not_mem_nil, or_false] at hv
          rcases hv with rfl | rfl
          · exact .inr ⟨j, hj, rfl, nj⟩
          · exact .inr ⟨i, hi, rfl, ni⟩) ha hn hc mb
        simp only [Srt.nm] at e1
        refine ⟨S', ?_, e2.imp (fun z => ⟨_, z⟩) id⟩
        simp! only [d10, d11, d12, h1, vb, ve, Option.isSome_none, Option.isSome_some, p1, e1]
  · have d10 : decide (((2 : Nat) : Int) = 0) = false := by decide
    have d11 : decide (((2 : Nat) : Int) = 1) = false := by decide
    have d12 : decide (((2 : Nat) : Int) = 2) = true := by decide
    rcases h.at1' (b : Int) with vb | ⟨j, hj, vb, nj⟩
    · refine ⟨S, ?_, .inl ⟨[], by simp⟩⟩
      simp! only [d10, d11, d12, h1, vb, Option.isSome_none, Option.isSome_some]
    · have ok : Th.Ok ⟨.weak, [pT B j], none⟩ := ⟨fun x hx => by
        rw [List.mem_singleton.mp hx]
        exact .th _, by simp, fun _ => rfl, fun z => (by cases z), fun _ => rfl⟩
      have p1 : ∀ S, f_weak [pT B j] S = .ok (Th.v ⟨.weak, [pT B j], none⟩) S := fun S => weak_spec rfl
      obtain ⟨S', e1, e2⟩ := make_at h ok (fun v hv => .inr ⟨j, hj, List.mem_singleton.mp hv, nj⟩) ha hn hc mb
      simp only [Srt.nm] at e1
      refine ⟨S', ?_, e2.imp (fun z => ⟨_, z⟩) id⟩
      simp! only [d10, d11, d12, h1, vb, Option.isSome_none, Option.isSome_some, p1, e1]
/-- what a get, a find, a copy, a look bring -/
inductive Brt (n : Nat) (B : Nat → Ent) (kvs : List (Key × D)) (w j : Nat) : D → Prop
  | no : Brt n B kvs w j nT
  | self : w ≠ 6 → Brt n B kvs w j (pT B j)
  | get {k : Nat} : w ≠ 6 → k < n → (B j).t.s = .plain → pT B k ∈ (B j).t.fs → Brt n B kvs w j (pT B k)
  | look {k : Nat} : w = 6 → k < n → (B j).t.s = .weak → pT B k ∈ (B j).t.fs → Brt n B kvs w j (pT B k)
  | find {i k : Nat} : w ≠ 6 → i < n → k < n → (B j).t.s = .pair → (B j).t.fs = [pT B i, pT B k] → Nmd kvs B i → Brt n B kvs w j (pT B k)
theorem eqR_val {v u : D} (h : IsVal v) (h2 : IsVal u) (S : Sto) [Decidable (v = u)] : eqR v u S = .ok (.bl (decide (v = u))) S := eqR_dat h.dat h2.dat (by rw [h.dep]; decide) (by rw [h2.dep]; decide)
theorem nm_pl {s t : Srt} : decide (s.nm = t.nm) = decide (s = t) := by cases s <;> cases t <;> decide
theorem brought_spec (h : W6 S n B li kvs c xs dk mo gl) {w a b e d j : Nat} (hw : 5 ≤ w) (hw2 : w < 9) (hj : j < n) (vb : valD kvs (.inl (b : Int)) = some (.int (plc B j))) :
    ∃ v, f_law_brought [stT, pP w a b e d] S = .ok v S ∧ Brt n B kvs w j v := by
  classical
  have h0 := h.s0
  have h1 := h.s1
  have r0 := h.at0 hj
  have fl := h.fl j hj
  have okj := (h.lay.atK hj).ok
  have okj : (B j).t.Ok := okj
  have vsj := h.vs j hj
  have w4 : w = 5 ∨ w = 6 ∨ w = 7 ∨ w = 8 := by omega
  have np : decide ((B j).t.s.nm = "plain") = decide ((B j).t.s = .plain) := nm_pl (t := .plain)
  have nw : decide ((B j).t.s.nm = "weak") = decide ((B j).t.s = .weak) := nm_pl (t := .weak)
  have nr : decide ((B j).t.s.nm = "pair") = decide ((B j).t.s = .pair) := nm_pl (t := .pair)
  unfold f_law_brought b_law_brought
  rcases w4 with rfl | rfl | rfl | rfl
  · have d5 : decide (((5 : Nat) : Int) = 5) = true := by decide
    have d6 : decide (((5 : Nat) : Int) = 6) = false := by decide
    have d7 : decide (((5 : Nat) : Int) = 7) = false := by decide
    have d8 : decide (((5 : Nat) : Int) = 8) = false := by decide
    by_cases hp : (B j).t.s = .plain
    · rw [decide_eq_true hp] at np
      by_cases hd : d < (B j).t.fs.length
      · have dl : decide ((d : Int) < ((B j).t.fs.length : Int)) = true := decide_eq_true (by omega)
        have ix : atI (B j).t.fs (d : Int) = some (B j).t.fs[d] := atI_nat (List.getElem?_eq_getElem hd)
        have hv := vsj _ (List.getElem_mem hd)
        refine ⟨(B j).t.fs[d], ?_, ?_⟩
        · simp! only [h0, h1, vb, r0, d5, np, fl, dl, ix]
        · rcases hv with z | ⟨k, hk, z⟩
          · rw [z]; exact .no
          · have hm := List.getElem_mem hd
            rw [z] at hm ⊢
            exact .get (by decide) hk hp hm
      · have dl : decide ((d : Int) < ((B j).t.fs.length : Int)) = false := decide_eq_false (by omega)
        refine ⟨nT, ?_, .no⟩
        simp! only [h0, h1, vb, r0, d5, np, fl, dl, d6, d7, d8]
    · rw [decide_eq_false hp] at np
      refine ⟨nT, ?_, .no⟩
      simp! only [h0, h1, vb, r0, d5, np, d6, d7, d8]
  · have d5 : decide (((6 : Nat) : Int) = 5) = false := by decide
    have d6 : decide (((6 : Nat) : Int) = 6) = true := by decide
    have d7 : decide (((6 : Nat) : Int) = 7) = false := by decide
    have d8 : decide (((6 : Nat) : Int) = 8) = false := by decide
    by_cases hp : (B j).t.s = .weak
    · rw [decide_eq_true hp] at nw
      have l1 := okj.wk hp
      have hd : 0 < (B j).t.fs.length := by omega
      have ix : atI (B j).t.fs 0 = some (B j).t.fs[0] := atI_nat (j := 0) (List.getElem?_eq_getElem hd)
      have hv := vsj _ (List.getElem_mem hd)
      refine ⟨(B j).t.fs[0], ?_, ?_⟩
      · simp! only [h0, h1, vb, r0, d5, d6, nw, fl, ix]
      · rcases hv with z | ⟨k, hk, z⟩
        · rw [z]; exact .no
        · have hm := List.getElem_mem hd
          rw [z] at hm ⊢
          exact .look rfl hk hp hm
    · rw [decide_eq_false hp] at nw
      refine ⟨nT, ?_, .no⟩
      simp! only [h0, h1, vb, r0, d5, d6, nw, d7, d8]
  · have d5 : decide (((7 : Nat) : Int) = 5) = false := by decide
    have d6 : decide (((7 : Nat) : Int) = 6) = false := by decide
    have d7 : decide (((7 : Nat) : Int) = 7) = true := by decide
    have d8 : decide (((7 : Nat) : Int) = 8) = false := by decide
    by_cases hp : (B j).t.s = .pair
    · rw [decide_eq_true hp] at nr
      have l2 := okj.pr hp
      obtain ⟨x0, x1, hfs⟩ : ∃ x0 x1, (B j).t.fs = [x0, x1] := by
        match hh : (B j).t.fs, l2 with
        | [x0, x1], _ => exact ⟨x0, x1, rfl⟩
      have ix0 : atI (B j).t.fs 0 = some x0 := by rw [hfs]; rfl
      have ix1 : atI (B j).t.fs 1 = some x1 := by rw [hfs]; rfl
      have v0 : IsVal x0 := okj.val _ (by rw [hfs]; exact List.mem_cons_self)
      have hv0 := vsj x0 (by rw [hfs]; exact List.mem_cons_self)
      have hv1 := vsj x1 (by rw [hfs]; simp)
      obtain ⟨z, hz, fz⟩ : ∃ z : Int, (valD kvs (.inl (e : Int))).getD (.int (-1)) = .int z ∧ (x0 = vTh z → ∃ i, i < n ∧ x0 = pT B i ∧ Nmd kvs B i) := by
        rcases h.at1' (e : Int) with ve | ⟨i, hi, ve, ni⟩
        · refine ⟨-1, by rw [ve]; rfl, fun q => ?_⟩
          rcases hv0 with q0 | ⟨i, hi, q0⟩
          · rw [q0] at q; unfold vTh at q; injection q with q; injection q with _ q; cases q
          · rw [q0] at q; unfold vTh at q; injection q with q; injection q with _ q; injection q with q; injection q with q
            exact absurd q (by have : 0 ≤ plc B i := Int.natCast_nonneg _; omega)
        · exact ⟨plc B i, by rw [ve]; rfl, fun q => ⟨i, hi, q, ni⟩⟩
      have eq := eqR_val v0 (.th z) S
      unfold vTh at eq
      by_cases hq : x0 = vTh z
      · obtain ⟨i, hi, e0, ni⟩ := fz hq
        have hq' : x0 = .tup [.str "thing", .int z] := hq
        rw [decide_eq_true hq'] at eq
        refine ⟨x1, ?_, ?_⟩
        · simp! only [h0, h1, vb, r0, d5, d6, d7, nr, fl, ix0, ix1, r_op1, neg_int, hz, eq]
        · rcases hv1 with q1 | ⟨k, hk, q1⟩
          · rw [q1]; exact .no
          · rw [q1]; exact .find (by decide) hi hk hp (by rw [hfs, e0, q1]) ni
      · have hq' : ¬ x0 = .tup [.str "thing", .int z] := hq
        rw [decide_eq_false hq'] at eq
        refine ⟨nT, ?_, .no⟩
        simp! only [h0, h1, vb, r0, d5, d6, d7, d8, nr, fl, ix0, r_op1, neg_int, hz, eq]
    · rw [decide_eq_false hp] at nr
      refine ⟨nT, ?_, .no⟩
      simp! only [h0, h1, vb, r0, d5, d6, d7, nr, d8]
  · have d5 : decide (((8 : Nat) : Int) = 5) = false := by decide
    have d6 : decide (((8 : Nat) : Int) = 6) = false := by decide
    have d7 : decide (((8 : Nat) : Int) = 7) = false := by decide
    have d8 : decide (((8 : Nat) : Int) = 8) = true := by decide
    refine ⟨pT B j, ?_, .self (by decide)⟩
    simp! only [h0, h1, vb, r0, d5, d6, d7, d8]
end

set_option Elab.async false
set_option linter.all false
set_option maxRecDepth 100000
set_option maxHeartbeats 4000000
/-! ### deeds: a put -/
def mkD : Option (Nat × Nat) → D
  | none => .non
  | some (k, _) => .loc k
def fenD (old : Bool) : D := if old = true then .vo .Old [] [] else .vo .New [] []
/-- a value is shaded -/
def ShV (n : Nat) (B : Nat → Ent) (u : D) (s s' : (Nat → Bool) × List Nat) : Prop := (u = nT ∧ s' = s) ∨ ∃ k, k < n ∧ u = pT B k ∧ s' = shd s k
theorem plc_up {B : Nat → Ent} {j : Nat} {t : Th} {z : Int} {b : Bool} : plc (upE B j ⟨(B j).p, t, z, b⟩) = plc B := by
  funext k
  unfold plc upE
  by_cases h : k = j
  · simp [h]
  · simp [h]
section
variable {S : Sto} {n : Nat} {B : Nat → Ent} {li : Nat → Nat} {kvs : List (Key × D)} {c : Nat} {xs : List D} {dk : Nat → Bool} {mo : Option (Nat × Nat)} {gl : List Nat}
theorem W6.put (h : W6 S n B li kvs c xs dk mo gl) {j : Nat} (hj : j < n) {i : Nat} {v : D} (hv : v = nT ∨ ∃ k, k < n ∧ v = pT B k) :
    W6 ((S.set 4 (.lst (fillL xs (B j).p (((B j).t.setF i v).cells (B j).n (dk j))))).set (li j) (.lst ((B j).t.fs.set i v))) n (upE B j ⟨(B j).p, (B j).t.setF i v, (B j).n, (B j).b⟩) li kvs c (fillL xs (B j).p (((B j).t.setF i v).cells (B j).n (dk j))) dk mo gl := by
  have iv : IsVal v := by
    rcases hv with rfl | ⟨k, _, rfl⟩
    · exact .no
    · exact .th _
  have okj : (B j).t.Ok := (h.lay.atK hj).ok
  have lay' := h.lay.updK hj (setF_ok okj (i := i) iv) (m := (B j).n) (b := dk j) (setF_size _ _ _)
  have eE : upE (Ed B dk) j ⟨(Ed B dk j).p, (B j).t.setF i v, (B j).n, dk j⟩ = Ed (upE B j ⟨(B j).p, (B j).t.setF i v, (B j).n, (B j).b⟩) dk := by
    funext k
    unfold upE Ed
    by_cases z : k = j
    · simp [z]
    · simp [z]
  have lay' : Lay (fillL xs (B j).p (((B j).t.setF i v).cells (B j).n (dk j))) 6 16 (entL n (upE (Ed B dk) j ⟨(Ed B dk j).p, (B j).t.setF i v, (B j).n, dk j⟩)) := lay'
  rw [eE] at lay'
  have pe := plc_up (B := B) (j := j) (t := (B j).t.setF i v) (z := (B j).n) (b := (B j).b)
  have es : shK n (upE B j ⟨(B j).p, (B j).t.setF i v, (B j).n, (B j).b⟩) li = shK n B li := by
    unfold shK
    rw [pe]
    refine List.map_congr_left fun k _ => ?_
    have : (upE B j ⟨(B j).p, (B j).t.setF i v, (B j).n, (B j).b⟩ k).t.s = (B k).t.s := by
      unfold upE
      split
      · rename_i z; rw [z]; rfl
      · rfl
    rw [this]
  have l0 := h.lo hj
  have hl4 := get_lt h.M.rm.ins
  have hlj := get_lt (h.fl j hj)
  refine ⟨?_, ?_, (h.M.upd fillL_len).oth l0.2.2.1 l0.2.2.2 (h.l4 j hj), lay', fun k hk => ?_, h.lj, h.l4, ?_, h.cl, fun k hk u hu => ?_, fun k q e => ?_, h.gk, h.gs, h.nn, h.cc⟩
  · rw [List.getElem?_set_ne l0.1, List.getElem?_set_ne (by decide), es]; exact h.s0
  · rw [List.getElem?_set_ne l0.2.1, List.getElem?_set_ne (by decide)]; exact h.s1
  · by_cases z : k = j
    · subst z
      rw [upE_n, List.getElem?_set_self (by rw [List.length_set]; exact hlj)]
      rfl
    · have : upE B j ⟨(B j).p, (B j).t.setF i v, (B j).n, (B j).b⟩ k = B k := if_neg z
      rw [this, List.getElem?_set_ne fun w => z (h.lj k j hk hj w.symm), List.getElem?_set_ne (h.l4 k hk).symm]
      exact h.fl k hk
  · rw [pe]; exact h.sl
  · unfold pT
    rw [pe]
    by_cases z : k = j
    · subst z
      rw [upE_n] at hu
      rcases List.mem_or_eq_of_mem_set hu with hu | rfl
      · exact h.vs k hk u hu
      · exact hv
    · have : upE B j ⟨(B j).p, (B j).t.setF i v, (B j).n, (B j).b⟩ k = B k := if_neg z
      rw [this] at hu
      exact h.vs k hk u hu
  · obtain ⟨h1, h2, h3, h4⟩ := h.mkk k q e
    obtain ⟨_, _, _, _, _, b4, _, b6⟩ := h.qo e
    rw [pe]
    exact ⟨by rw [List.getElem?_set_ne (b6 j hj), List.getElem?_set_ne b4.symm]; exact h1, by rw [List.getElem?_set_ne (h4 j hj), List.getElem?_set_ne h3.symm]; exact h2, h3, h4⟩
theorem named_v {u : D} (h : IsVal u) (S : Sto) : f_named_by [u] S = .ok (.vl (nmOf u)) S := by
  unfold f_named_by b_named_by
  cases h with
  | no => simp! only [isTh_call .no, isTh_no, nm_no]
  | num i => simp! only [isTh_call (.num i), isTh_num, nm_num]
  | th i =>
    simp! only [isTh_call (.th i), isTh_th, nm_th]
    simp! only [vTh]
theorem psh_new {a b : D} (hb : IsVal b) (S : Sto) : f_New_put_shades [.vo .New [] [], a, b] S = .ok (.vl (nmOf b)) S := by
  unfold f_New_put_shades b_New_put_shades
  simp! only [named_v hb]
theorem psh_old {a b : D} (ha : IsVal a) (S : Sto) : f_Old_put_shades [.vo .Old [] [], a, b] S = .ok (.vl (nmOf a)) S := by
  unfold f_Old_put_shades b_Old_put_shades
  simp! only [named_v ha]
theorem put_spec (h : W6 S n B li kvs c xs dk mo gl) (old : Bool) {w a b e d : Nat} :
    ∃ S', f_law_put [stT, pP w a b e d, fenD old, mkD mo] S = .ok .non S' ∧ Fr46 S S' n li mo ∧ (S' = S ∨
      ∃ (j i : Nat) (u v : D) (xs' : List D) (s : (Nat → Bool) × List Nat), j < n ∧ Nmd kvs B j ∧ (B j).t.s = .plain ∧ (B j).t.fs[i]? = some u ∧ (v = nT ∨ ∃ k, k < n ∧ v = pT B k ∧ Nmd kvs B k) ∧
        ((mo = none ∧ s = (dk, gl)) ∨ (mo.isSome = true ∧ ShV n B (if old = true then u else v) (dk, gl) s)) ∧ W6 S' n (upE B j ⟨(B j).p, (B j).t.setF i v, (B j).n, (B j).b⟩) li kvs c xs' s.1 mo s.2) := by
  have h0 := h.s0
  have h1 := h.s1
  unfold f_law_put b_law_put
  rcases h.at1' (a : Int) with va | ⟨j, hj, va, nj⟩
  · refine ⟨S, ?_, Fr46.refl, .inl rfl⟩
    simp! only [h0, h1, va, Option.getD_none]
  have r0 := h.at0 hj
  have fl := h.fl j hj
  have np : decide ((B j).t.s.nm = "plain") = decide ((B j).t.s = .plain) := nm_pl (t := .plain)
  by_cases hp : (B j).t.s = .plain
  case neg =>
    rw [decide_eq_false hp] at np
    refine ⟨S, ?_, Fr46.refl, .inl rfl⟩
    simp! only [h0, h1, va, Option.getD_some, r0, np]
  rw [decide_eq_true hp] at np
  by_cases hd : d < (B j).t.fs.length
  case neg =>
    have dl : decide (((B j).t.fs.length : Int) ≤ (d : Int)) = true := decide_eq_true (by omega)
    refine ⟨S, ?_, Fr46.refl, .inl rfl⟩
    simp! only [h0, h1, va, Option.getD_some, r0, np, fl, dl]
  have dl : decide (((B j).t.fs.length : Int) ≤ (d : Int)) = false := decide_eq_false (by omega)
  have ix : atI (B j).t.fs (d : Int) = some (B j).t.fs[d] := atI_nat (List.getElem?_eq_getElem hd)
  have ixn : ixN (B j).t.fs.length (d : Int) = some d := ixN_lt hd
  have hu := h.vs j hj _ (List.getElem_mem hd)
  have eu : (B j).t.fs[d]? = some (B j).t.fs[d] := List.getElem?_eq_getElem hd
  obtain ⟨u, hu0⟩ : ∃ u, u = (B j).t.fs[d] := ⟨_, rfl⟩
  rw [← hu0] at ix hu eu
  have iu : IsVal u := by
    rcases hu with rfl | ⟨k, _, rfl⟩
    · exact .no
    · exact .th _
  -- behind the shading
  have fin : ∀ {S1 : Sto} {xs1 : List D} {s : (Nat → Bool) × List Nat} {v : D}, W6 S1 n B li kvs c xs1 s.1 mo s.2 → Fr46 S S1 n li mo → (v = nT ∨ ∃ k, k < n ∧ v = pT B k ∧ Nmd kvs B k) →
      ((mo = none ∧ s = (dk, gl)) ∨ (mo.isSome = true ∧ ShV n B (if old = true then u else v) (dk, gl) s)) →
      ∃ S', f_Memory_set_field [.loc 2, .int (plc B j), .int (d : Int), v] S1 = .ok .non (S1.set 4 (.lst (fillL xs1 (B j).p (((B j).t.setF d v).cells (B j).n (s.1 j))))) ∧ S' = (S1.set 4 (.lst (fillL xs1 (B j).p (((B j).t.setF d v).cells (B j).n (s.1 j))))).set (li j) (.lst ((B j).t.fs.set d v)) ∧
        S1[2]? = some (.ins .Memory [(.rooms, .loc 3)]) ∧ (S1.set 4 (.lst (fillL xs1 (B j).p (((B j).t.setF d v).cells (B j).n (s.1 j)))))[0]? = some (.dct false (shK n B li)) ∧ (S1.set 4 (.lst (fillL xs1 (B j).p (((B j).t.setF d v).cells (B j).n (s.1 j)))))[li j]? = some (.lst (B j).t.fs) ∧
        Fr46 S S' n li mo ∧ ∃ (j' i : Nat) (u' v' : D) (xs' : List D) (s' : (Nat → Bool) × List Nat), j' < n ∧ Nmd kvs B j' ∧ (B j').t.s = .plain ∧ (B j').t.fs[i]? = some u' ∧ (v' = nT ∨ ∃ k, k < n ∧ v' = pT B k ∧ Nmd kvs B k) ∧
        ((mo = none ∧ s' = (dk, gl)) ∨ (mo.isSome = true ∧ ShV n B (if old = true then u' else v') (dk, gl) s')) ∧ W6 S' n (upE B j' ⟨(B j').p, (B j').t.setF i v', (B j').n, (B j').b⟩) li kvs c xs' s'.1 mo s'.2 := fun {S1 xs1 s v} g f hv hs => by
    have ta := g.lay.atK hj
    have sf := set_field_spec g.M ta (i := d) hd v
    have w := g.put hj (i := d) (v := v) (hv.imp id fun ⟨k, a, b, _⟩ => ⟨k, a, b⟩)
    refine ⟨_, sf, rfl, g.M.ob, ?_, ?_, (f.set (.inr (.inr (.inl rfl)))).set (.inr (.inr (.inr (.inr ⟨j, hj, rfl⟩)))), j, d, u, v, _, s, hj, nj, hp, eu, hv, hs, w⟩
    · rw [List.getElem?_set_ne (by decide)]; exact g.s0
    · rw [List.getElem?_set_ne (h.l4 j hj).symm]; exact g.fl j hj
  have nm1 : nmOf nT = [] := nm_no
  have nm2 : ∀ k, nmOf (pT B k) = [.int (plc B k)] := fun k => nm_th _
  rcases h.at1' (b : Int) with vb | ⟨k, hk, vb, nk⟩
  · -- nothing is put in
    cases mo with
    | none =>
      obtain ⟨S', e1, e2, e3, e4, e5, e6, e7⟩ := fin (s := (dk, gl)) (v := nT) h Fr46.refl (.inl rfl) (.inl ⟨rfl, rfl⟩)
      subst e2
      refine ⟨_, ?_, e6, .inr e7⟩
      have md : mkD none = .non := rfl
      simp! only [h0, h1, va, Option.getD_some, r0, np, fl, dl, vb, Option.isSome_none, Option.isSome_some, md, e3, e1, e4, e5, ixn]
    | some kq =>
      obtain ⟨k0, q⟩ := kq
      have md : mkD (some (k0, q)) = .loc k0 := rfl
      have ob := (h.mkk k0 q rfl).1
      unfold mkO at ob
      cases old with
      | true =>
        have fd : fenD true = .vo .Old [] [] := rfl
        have ps := fun S => psh_old (b := nT) iu S
        rcases hu with zu | ⟨k1, hk1, zu⟩
        · rw [zu] at ps
          rw [nm1] at ps
          obtain ⟨S', e1, e2, e3, e4, e5, e6, e7⟩ := fin (s := (dk, gl)) (v := nT) h Fr46.refl (.inl rfl) (.inr ⟨rfl, .inl ⟨zu, rfl⟩⟩)
          subst e2
          refine ⟨_, ?_, e6, .inr e7⟩
          rw [zu] at ix
          simp! only [h0, h1, va, Option.getD_some, r0, np, fl, dl, vb, Option.isSome_none, Option.isSome_some, md, fd, ix, ps, e3, e1, e4, e5, ixn]
        · rw [zu] at ps
          rw [nm2] at ps
          obtain ⟨xs1, g, esh⟩ := h.shade hk1
          have f1 : Fr46 S (mkS S 4 q xs1 ((shd (dk, gl) k1).2.map (plc B))) n li (some (k0, q)) := by
            unfold mkS
            exact (Fr46.refl.set (.inr (.inr (.inl rfl)))).set (.inr (.inr (.inr (.inl ⟨k0, q, rfl, rfl⟩))))
          obtain ⟨S', e1, e2, e3, e4, e5, e6, e7⟩ := fin (v := nT) g f1 (.inl rfl) (.inr ⟨rfl, .inr ⟨k1, hk1, zu, rfl⟩⟩)
          subst e2
          refine ⟨_, ?_, e6, .inr e7⟩
          rw [zu] at ix
          obtain ⟨S1, hS1⟩ : ∃ S1, S1 = mkS S 4 q xs1 ((shd (dk, gl) k1).2.map (plc B)) := ⟨_, rfl⟩
          rw [← hS1] at e1 e3 e4 e5 esh ⊢
          simp! only [h0, h1, va, Option.getD_some, r0, np, fl, dl, vb, Option.isSome_none, Option.isSome_some, md, fd, ix, ps, ob, esh, e3, e1, e4, e5, ixn]
      | false =>
        have fd : fenD false = .vo .New [] [] := rfl
        have ps := fun S => psh_new (a := u) (b := nT) (IsVal.no) S
        rw [nm1] at ps
        obtain ⟨S', e1, e2, e3, e4, e5, e6, e7⟩ := fin (s := (dk, gl)) (v := nT) h Fr46.refl (.inl rfl) (.inr ⟨rfl, .inl ⟨rfl, rfl⟩⟩)
        subst e2
        refine ⟨_, ?_, e6, .inr e7⟩
        simp! only [h0, h1, va, Option.getD_some, r0, np, fl, dl, vb, Option.isSome_none, Option.isSome_some, md, fd, ix, ps, e3, e1, e4, e5, ixn]
  · -- a thing is put in
    cases mo with
    | none =>
      obtain ⟨S', e1, e2, e3, e4, e5, e6, e7⟩ := fin (s := (dk, gl)) (v := pT B k) h Fr46.refl (.inr ⟨k, hk, rfl, nk⟩) (.inl ⟨rfl, rfl⟩)
      subst e2
      refine ⟨_, ?_, e6, .inr e7⟩
      have md : mkD none = .non := rfl
      simp! only [h0, h1, va, Option.getD_some, r0, np, fl, dl, vb, Option.isSome_none, Option.isSome_some, md, e3, e1, e4, e5, ixn]
    | some kq =>
      obtain ⟨k0, q⟩ := kq
      have md : mkD (some (k0, q)) = .loc k0 := rfl
      have ob := (h.mkk k0 q rfl).1
      unfold mkO at ob
      cases old with
      | true =>
        have fd : fenD true = .vo .Old [] [] := rfl
        have ps := fun S => psh_old (b := pT B k) iu S
        rcases hu with zu | ⟨k1, hk1, zu⟩
        · rw [zu] at ps
          rw [nm1] at ps
          obtain ⟨S', e1, e2, e3, e4, e5, e6, e7⟩ := fin (s := (dk, gl)) (v := pT B k) h Fr46.refl (.inr ⟨k, hk, rfl, nk⟩) (.inr ⟨rfl, .inl ⟨zu, rfl⟩⟩)
          subst e2
          refine ⟨_, ?_, e6, .inr e7⟩
          rw [zu] at ix
          simp! only [h0, h1, va, Option.getD_some, r0, np, fl, dl, vb, Option.isSome_none, Option.isSome_some, md, fd, ix, ps, e3, e1, e4, e5, ixn]
        · rw [zu] at ps
          rw [nm2] at ps
          obtain ⟨xs1, g, esh⟩ := h.shade hk1
          have f1 : Fr46 S (mkS S 4 q xs1 ((shd (dk, gl) k1).2.map (plc B))) n li (some (k0, q)) := by
            unfold mkS
            exact (Fr46.refl.set (.inr (.inr (.inl rfl)))).set (.inr (.inr (.inr (.inl ⟨k0, q, rfl, rfl⟩))))
          obtain ⟨S', e1, e2, e3, e4, e5, e6, e7⟩ := fin (v := pT B k) g f1 (.inr ⟨k, hk, rfl, nk⟩) (.inr ⟨rfl, .inr ⟨k1, hk1, zu, rfl⟩⟩)
          subst e2
          refine ⟨_, ?_, e6, .inr e7⟩
          rw [zu] at ix
          obtain ⟨S1, hS1⟩ : ∃ S1, S1 = mkS S 4 q xs1 ((shd (dk, gl) k1).2.map (plc B)) := ⟨_, rfl⟩
          rw [← hS1] at e1 e3 e4 e5 esh ⊢
          simp! only [h0, h1, va, Option.getD_some, r0, np, fl, dl, vb, Option.isSome_none, Option.isSome_some, md, fd, ix, ps, ob, esh, e3, e1, e4, e5, ixn]
      | false =>
        have fd : fenD false = .vo .New [] [] := rfl
        have ps := fun S => psh_new (a := u) (b := pT B k) (IsVal.th (plc B k)) S
        rw [nm2] at ps
        obtain ⟨xs1, g, esh⟩ := h.shade hk
        have f1 : Fr46 S (mkS S 4 q xs1 ((shd (dk, gl) k).2.map (plc B))) n li (some (k0, q)) := by
          unfold mkS
          exact (Fr46.refl.set (.inr (.inr (.inl rfl)))).set (.inr (.inr (.inr (.inl ⟨k0, q, rfl, rfl⟩))))
        obtain ⟨S', e1, e2, e3, e4, e5, e6, e7⟩ := fin (v := pT B k) g f1 (.inr ⟨k, hk, rfl, nk⟩) (.inr ⟨rfl, .inr ⟨k, hk, rfl, rfl⟩⟩)
        subst e2
        refine ⟨_, ?_, e6, .inr e7⟩
        obtain ⟨S1, hS1⟩ : ∃ S1, S1 = mkS S 4 q xs1 ((shd (dk, gl) k).2.map (plc B)) := ⟨_, rfl⟩
        rw [← hS1] at e1 e3 e4 e5 esh ⊢
        simp! only [h0, h1, va, Option.getD_some, r0, np, fl, dl, vb, Option.isSome_none, Option.isSome_some, md, fd, ix, ps, ob, esh, e3, e1, e4, e5, ixn]
end

set_option Elab.async false
set_option linter.all false
set_option maxRecDepth 100000
set_option maxHeartbeats 4000000
/-! ### a deed -/
open Classical in
noncomputable def ixOf (n : Nat) (B : Nat → Ent) (v : D) : Option Nat := if h : ∃ j, j < n ∧ v = pT B j then some h.choose else none
noncomputable def hold6 (n : Nat) (B : Nat → Ent) (k : Nat) : List Nat := if (B k).t.s = .plain then (B k).t.fs.filterMap (ixOf n B) else []
theorem ixOf_no {n : Nat} {B : Nat → Ent} : ixOf n B nT = none := by
  unfold ixOf
  rw [dif_neg]
  rintro ⟨j, _, e⟩
  cases e
theorem ixOf_lt {n : Nat} {B : Nat → Ent} {v : D} {j : Nat} (h : ixOf n B v = some j) : j < n ∧ v = pT B j := by
  unfold ixOf at h
  split at h
  · rename_i q
    injection h with h
    rw [← h]
    exact q.choose_spec
  · cases h
inductive Tr6 (old : Bool) (S S' : Sto) (n : Nat) (B : Nat → Ent) (li : Nat → Nat) (kvs : List (Key × D)) (c : Nat) (dk : Nat → Bool) (mo : Option (Nat × Nat)) (gl : List Nat) : Prop
  | same {kvs' : List (Key × D)} {xs' : List D} : W6 S' n B li kvs' (c + 1) xs' dk mo gl → (∀ k, k < n → Nmd kvs' B k → Nmd kvs B k) → Tr6 old S S' n B li kvs c dk mo gl
  | bring {kvs' : List (Key × D)} {xs' : List D} {w j k : Nat} : j < n → k < n → Nmd kvs B j → Brt n B kvs w j (pT B k) → (w = 6 → mo = none ∨ old = false) → W6 S' n B li kvs' (c + 1) xs' dk mo gl → (∀ i, i < n → Nmd kvs' B i → Nmd kvs B i ∨ i = k) → Tr6 old S S' n B li kvs c dk mo gl
  | look {kvs' : List (Key × D)} {xs' : List D} {j k : Nat} : j < n → k < n → Nmd kvs B j → Brt n B kvs 6 j (pT B k) → mo.isSome = true → old = true → W6 S' n B li kvs' (c + 1) xs' (shd (dk, gl) k).1 mo (shd (dk, gl) k).2 → (∀ i, i < n → Nmd kvs' B i → Nmd kvs B i ∨ i = k) → Tr6 old S S' n B li kvs c dk mo gl
  | new {a : Nat} : NewAt S S' n B li kvs c dk mo gl a (mo.isSome && old) → Tr6 old S S' n B li kvs c dk mo gl
  | put {j i : Nat} {u v : D} {xs' : List D} {s : (Nat → Bool) × List Nat} : j < n → Nmd kvs B j → (B j).t.s = .plain → (B j).t.fs[i]? = some u → (v = nT ∨ ∃ k, k < n ∧ v = pT B k ∧ Nmd kvs B k) →
      ((mo = none ∧ s = (dk, gl)) ∨ (mo.isSome = true ∧ ShV n B (if old = true then u else v) (dk, gl) s)) → W6 S' n (upE B j ⟨(B j).p, (B j).t.setF i v, (B j).n, (B j).b⟩) li kvs (c + 1) xs' s.1 mo s.2 → Tr6 old S S' n B li kvs c dk mo gl
  | step {k : Nat} {gl0 : List Nat} {xs' : List D} : mo.isSome = true → gl = k :: gl0 → W6 S' n B li kvs (c + 1) xs' (stp (hold6 n B) (dk, gl)).1 mo (stp (hold6 n B) (dk, gl)).2 → Tr6 old S S' n B li kvs c dk mo gl
section
variable {S : Sto} {n : Nat} {B : Nat → Ent} {li : Nat → Nat} {kvs : List (Key × D)} {c : Nat} {xs : List D} {dk : Nat → Bool} {mo : Option (Nat × Nat)} {gl : List Nat}
theorem W6.mono (h : W6 S n B li kvs c xs dk mo gl) {c' : Nat} (h1 : c ≤ c') (h2 : c' ≤ 1000) : W6 S n B li kvs c' xs dk mo gl := ⟨h.s0, h.s1, h.M, h.lay, h.fl, h.lj, h.l4, h.sl, Nat.le_trans h.cl h1, h.vs, h.mkk, h.gk, h.gs, h.nn, h2⟩
theorem W6.ix (h : W6 S n B li kvs c xs dk mo gl) {j : Nat} (hj : j < n) : ixOf n B (pT B j) = some j := by
  have hh : ∃ i, i < n ∧ pT B j = pT B i := ⟨j, hj, rfl⟩
  unfold ixOf
  rw [dif_pos hh]
  have := hh.choose_spec
  congr 1
  refine h.inj _ _ this.1 hj ?_
  have e := this.2
  unfold pT at e
  injection e with e
  injection e with _ e
  injection e with e
  injection e with e
  rw [e]
theorem W6.hd (h : W6 S n B li kvs c xs dk mo gl) : Hd n B (hold6 n B) := by
  refine ⟨fun k hk => ?_, fun k hk j hj => ?_, fun k hk => ?_⟩
  · unfold Th.hold hold6
    by_cases q : (B k).t.s = .plain
    · rw [if_pos q, if_pos q]
      have vs := h.vs k hk
      generalize (B k).t.fs = fs at vs
      induction fs with
      | nil => rfl
      | cons v fs ih =>
        rw [List.flatMap_cons, List.filterMap_cons, ih fun u hu => vs u (List.mem_cons_of_mem _ hu)]
        rcases vs v List.mem_cons_self with e | ⟨j, hj, e⟩
        · have : nmOf v = [] := by rw [e]; exact nm_no
          rw [this, e, ixOf_no]
          rfl
        · have : nmOf v = [.int (plc B j)] := by rw [e]; exact nm_th _
          rw [this, e, h.ix hj]
          rfl
    · rw [if_neg q, if_neg q]; rfl
  · unfold hold6 at hj
    split at hj
    · obtain ⟨v, _, e⟩ := List.mem_filterMap.mp hj
      exact (ixOf_lt e).1
    · cases hj
  · unfold hold6
    split
    · exact Nat.le_trans (List.length_filterMap_le _ _) (h.lay.atK hk).ok.len
    · exact Nat.zero_le _
theorem nmd_drop {k : Key} {j : Nat} (h : Nmd (dropD kvs k) B j) : Nmd kvs B j := by
  obtain ⟨i, hm⟩ := h
  rw [val_drop] at hm
  split at hm
  · cases hm
  · exact ⟨i, hm⟩
theorem W6.nmd_put (h : W6 S n B li kvs c xs dk mo gl) {q : Key} {i k : Nat} (hi : i < n) (hk : k < n) {kvs0 : List (Key × D)} (h2 : Nmd (putD kvs0 q (.int (plc B k))) B i) : Nmd kvs0 B i ∨ i = k := by
  obtain ⟨x, hm⟩ := h2
  rw [val_put] at hm
  split at hm
  · injection hm with e
    injection e with e
    exact .inr (h.inj i k hi hk (by rw [e]))
  · exact .inl ⟨x, hm⟩
theorem fen_old : fenD true = .vo .Old [] [] := rfl
theorem fen_new : fenD false = .vo .New [] [] := rfl
theorem fn_mn (S : Sto) : f_Fence_marks_new [.vo .New [] []] S = .ok (.bl false) S := by
  unfold f_Fence_marks_new b_Fence_marks_new
  simp! only []
theorem fo_mn (S : Sto) : f_Old_marks_new [.vo .Old [] []] S = .ok (.bl true) S := by
  unfold f_Old_marks_new b_Old_marks_new
  simp! only []
theorem fn_sl (S : Sto) : f_Fence_shades_look [.vo .New [] []] S = .ok (.bl false) S := by
  unfold f_Fence_shades_look b_Fence_shades_look
  simp! only []
theorem fo_sl (S : Sto) : f_Old_shades_look [.vo .Old [] []] S = .ok (.bl true) S := by
  unfold f_Old_shades_look b_Old_shades_look
  simp! only []
/-- the scope round what is brought -/
theorem scp_same {S S' : Sto} {ρ ρ' : Rho} (h : Cld S S') (hl : S'.length = S.length) (hf : fzRho S' S.length ρ = some ρ') : scpR S (.nx ρ S') = .nx ρ' S' := by
  rw [scp_nx h, hf]
  show SR.nx ρ' (S'.take S.length) = _
  rw [← hl, List.take_length]
end

set_option Elab.async false
set_option linter.all false
set_option maxRecDepth 100000
set_option maxHeartbeats 4000000
theorem fz_slots {S : Sto} {N : Nat} {ρ : Rho} (h : ∀ d, some d ∈ ρ → fzD S N 8 d = some d) : fzRho S N ρ = some ρ := by
  unfold fzRho
  induction ρ with
  | nil => rfl
  | cons o ρ ih =>
    have ih := ih fun d hd => h d (List.mem_cons_of_mem _ hd)
    have e : fzSlot S N o = some o := by
      cases o with
      | none => rfl
      | some d => unfold fzSlot; dsimp only; rw [h d List.mem_cons_self]
    rw [optAll, e, ih]
theorem neR_nz {c : List Int} {S : Sto} (h : c ≠ []) : neR (.vl (c.map .int)) (.vl []) S = .ok (.bl true) S := by
  have da : (D.vl (c.map .int)).dat = true := by rw [dat_vl]; exact datAll_ints
  have dd : (D.vl (c.map .int)).dep ≤ 8 := by rw [dep_vl, depAll_ints]; decide
  classical
  rw [neR_dat da rfl dd (by decide)]
  congr 2
  rw [decide_eq_false]
  · rfl
  · intro z
    injection z with z
    exact h (List.map_eq_nil_iff.mp z)
section
variable {S : Sto} {n : Nat} {B : Nat → Ent} {li : Nat → Nat} {kvs : List (Key × D)} {c : Nat} {xs : List D} {dk : Nat → Bool} {mo : Option (Nat × Nat)} {gl : List Nat}
theorem give_fin {S1 : Sto} {xs1 : List D} {s : (Nat → Bool) × List Nat} (g : W6 S1 n B li kvs c xs1 s.1 mo s.2) (cl : Cld S S1) (hl : S1.length = S.length) (f : Fr46 S S1 n li mo) {a : Nat} (ha : a < 5) {v : D} (hv : v = nT ∨ ∃ k, k < n ∧ v = pT B k) (hc : c < 1000) :
    ∃ kvs', f_law_give [stT, .int (a : Int), v] S1 = .ok .non (S1.set 1 (.dct false kvs')) ∧ W6 (S1.set 1 (.dct false kvs')) n B li kvs' (c + 1) xs1 s.1 mo s.2 ∧ Cld S (S1.set 1 (.dct false kvs')) ∧ (S1.set 1 (.dct false kvs')).length = S.length ∧ Fr46 S (S1.set 1 (.dct false kvs')) n li mo ∧
      ∀ i, i < n → Nmd kvs' B i → Nmd kvs B i ∨ v = pT B i := by
  have key : ∀ kvs', W6 (S1.set 1 (.dct false kvs')) n B li kvs' (c + 1) xs1 s.1 mo s.2 → Cld S (S1.set 1 (.dct false kvs')) ∧ (S1.set 1 (.dct false kvs')).length = S.length ∧ Fr46 S (S1.set 1 (.dct false kvs')) n li mo := fun kvs' w => by
    have lw := w.low1
    rw [List.length_set, hl] at lw
    exact ⟨cl.set lw, by rw [List.length_set]; exact hl, f.set (.inr (.inl rfl))⟩
  rcases hv with rfl | ⟨k, hk, rfl⟩
  · have w := (g.drop1 (.inl (a : Int))).mono (Nat.le_succ c) (by omega)
    obtain ⟨k1, k2, k3⟩ := key _ w
    exact ⟨_, give_no g a, w, k1, k2, k3, fun i hi hn => .inl (nmd_drop hn)⟩
  · have g1 := g.drop1 (.inl (a : Int))
    have w := g1.put1 ha hk hc
    rw [List.set_set] at w
    obtain ⟨k1, k2, k3⟩ := key _ w
    refine ⟨_, give_th g a k, w, k1, k2, k3, fun i hi hn => ?_⟩
    rcases g.nmd_put hi hk hn with z | z
    · exact .inl (nmd_drop z)
    · exact .inr (by rw [z])
theorem mkD_fz (h : W6 S n B li kvs c xs dk mo gl) {S2 : Sto} : fzD S2 S.length 8 (mkD mo) = some (mkD mo) := by
  cases mo with
  | none => exact fz_pure rfl
  | some kq =>
    obtain ⟨k, q⟩ := kq
    exact fz_old (get_lt (h.mkk k q rfl).1)
theorem deed_spec (h : W6 S n B li kvs c xs dk mo gl) (old : Bool) {w a b e d : Nat} (ha : a < 5) (hd : d < 4) (hn : n < 100) (hc : c < 1000) :
    ∃ S', f_law_deed [stT, pP w a b e d, fenD old, mkD mo] S = .ok .non S' ∧ Fr46 S S' n li mo ∧ Tr6 old S S' n B li kvs c dk mo gl := by
  have h1 := h.s1
  have hl3 : 2 < S.length := get_lt h.M.ob
  by_cases w3 : w < 3
  · have c3 : decide ((w : Int) < 3) = true := decide_eq_true (by omega)
    obtain ⟨S', e1, e2⟩ := new_spec h (w := w) (b := b) (e := e) w3 ha hd hn hc (mo.isSome && old)
    have fin : Fr46 S S' n li mo ∧ Tr6 old S S' n B li kvs c dk mo gl := by
      rcases e2 with ⟨G, rfl⟩ | e2
      · exact ⟨.app, .same (h.app.mono (Nat.le_succ c) (by omega)) fun _ _ z => z⟩
      · exact ⟨e2.fr, .new e2⟩
    refine ⟨S', ?_, fin⟩
    unfold f_law_deed b_law_deed
    cases mo with
    | none =>
      have md : mkD none = .non := rfl
      simp only [Option.isSome_none, Bool.false_and] at e1
      simp! only [c3, md, e1]
    | some kq =>
      obtain ⟨k0, q⟩ := kq
      have md : mkD (some (k0, q)) = .loc k0 := rfl
      cases old with
      | true =>
        simp only [Option.isSome_some, Bool.true_and] at e1
        simp! only [c3, md, fen_old, fo_mn, e1]
      | false =>
        simp only [Option.isSome_some, Bool.true_and] at e1
        simp! only [c3, md, fen_new, fn_mn, e1]
  have c3 : decide ((w : Int) < 3) = false := decide_eq_false (by omega)
  by_cases w5 : w < 5
  · have c5 : decide ((w : Int) < 5) = true := decide_eq_true (by omega)
    obtain ⟨S', e1, e2, e3⟩ := put_spec h old (w := w) (a := a) (b := b) (e := e) (d := d)
    refine ⟨S', ?_, e2, ?_⟩
    · unfold f_law_deed b_law_deed
      simp! only [c3, c5, e1]
    · rcases e3 with rfl | ⟨j, i, u, v, xs', s, g1, g2, g3, g4, g5, g6, g7⟩
      · exact .same (h.mono (Nat.le_succ c) (by omega)) fun _ _ z => z
      · exact .put g1 g2 g3 g4 g5 g6 (g7.mono (Nat.le_succ c) (by omega))
  have c5 : decide ((w : Int) < 5) = false := decide_eq_false (by omega)
  by_cases w9 : w < 9
  · have c9 : decide ((w : Int) < 9) = true := decide_eq_true (by omega)
    have n9 : decide ((w : Int) = 9) = false := decide_eq_false (by omega)
    have g9 : decide (9 < (w : Int)) = false := decide_eq_false (by omega)
    rcases h.at1' (b : Int) with vb | ⟨j, hj, vb, nj⟩
    · refine ⟨S, ?_, .refl, .same (h.mono (Nat.le_succ c) (by omega)) fun _ _ z => z⟩
      unfold f_law_deed b_law_deed
      simp! only [c3, c5, c9, n9, g9, h1, vb, Option.isSome_none]
    obtain ⟨v, ev, bv⟩ := brought_spec h (w := w) (a := a) (b := b) (e := e) (d := d) (by omega) w9 hj vb
    have hv : v = nT ∨ ∃ k, k < n ∧ v = pT B k := by
      cases bv with
      | no => exact .inl rfl
      | self => exact .inr ⟨j, hj, rfl⟩
      | get _ hk _ _ => exact .inr ⟨_, hk, rfl⟩
      | look _ hk _ _ => exact .inr ⟨_, hk, rfl⟩
      | find _ _ hk _ _ _ => exact .inr ⟨_, hk, rfl⟩
    have pv : v.pureB = true := by
      rcases hv with rfl | ⟨k, _, rfl⟩ <;> rfl
    have sco : ∀ (S2 : Sto), Cld S S2 → S2.length = S.length → scpR S (.nx [some (stT), some (pP w a b e d), some (fenD old), some (mkD mo), some (.int (w : Int)), some (.int (a : Int)), some (.int (b : Int)), some (.int (e : Int)), some (.int (d : Int)), some (v)] S2) = .nx [some (stT), some (pP w a b e d), some (fenD old), some (mkD mo), some (.int (w : Int)), some (.int (a : Int)), some (.int (b : Int)), some (.int (e : Int)), some (.int (d : Int)), some (v)] S2 := fun S2 c1 c2 =>
      scp_same c1 c2 (fz_slots fun x hx => by
        simp only [List.mem_cons, List.not_mem_nil, or_false, Option.some.injEq] at hx
        rcases hx with rfl | rfl | rfl | rfl | rfl | rfl | rfl | rfl | rfl | rfl
        · unfold fzD
          rw [if_neg (by simp [D.pureB, pureAll])]
          simp only [optAll, fz_old (show 0 < S.length by omega), fz_old (show 1 < S.length by omega), fz_old hl3, Option.map_some]
        · exact fz_pure rfl
        · cases old <;> exact fz_pure rfl
        · exact mkD_fz h
        · exact fz_pure rfl
        · exact fz_pure rfl
        · exact fz_pure rfl
        · exact fz_pure rfl
        · exact fz_pure rfl
        · exact fz_pure pv)
    -- no shading
    have plain : (w = 6 → mo = none ∨ old = false ∨ v = nT) → ∃ kvs' : List (Key × D), f_law_give [stT, .int (a : Int), v] S = .ok .non (S.set 1 (.dct false kvs')) ∧ Cld S (S.set 1 (.dct false kvs')) ∧ (S.set 1 (.dct false kvs')).length = S.length ∧ Fr46 S (S.set 1 (.dct false kvs')) n li mo ∧ Tr6 old S (S.set 1 (.dct false kvs')) n B li kvs c dk mo gl := fun hx => by
      obtain ⟨kvs', e1, e2, e3, e4, e5, e6⟩ := give_fin (S := S) (s := (dk, gl)) h cld_self rfl .refl ha hv hc
      refine ⟨kvs', e1, e3, e4, e5, ?_⟩
      rcases hv with rfl | ⟨k, hk, rfl⟩
      · exact .same e2 fun k hk z => (e6 k hk z).elim id fun q => by cases q
      · refine .bring hj hk nj bv (fun z => (hx z).elim .inl fun y => y.elim .inr fun q => by cases q) e2 fun i hi z => (e6 i hi z).imp id fun q => ?_
        unfold pT at q
        injection q with q; injection q with _ q; injection q with q; injection q with q
        exact (h.inj i k hi hk (by rw [q]))
    unfold f_law_deed b_law_deed
    by_cases w6 : w = 6
    · subst w6
      have d6 : decide (((6 : Nat) : Int) = 6) = true := by decide
      cases mo with
      | none =>
        have md : mkD none = .non := rfl
        obtain ⟨kvs', e1, e2, e3, e4, e5⟩ := plain fun _ => .inl rfl
        have sc := sco _ e2 e3
        rw [md] at sc
        refine ⟨_, ?_, e4, e5⟩
        simp! only [c3, c5, c9, n9, g9, h1, vb, Option.isSome_some, ev, d6, md, e1, sc]
      | some kq =>
        obtain ⟨k0, q⟩ := kq
        have md : mkD (some (k0, q)) = .loc k0 := rfl
        rcases hv with zv | ⟨k, hk, zv⟩
        · obtain ⟨kvs', e1, e2, e3, e4, e5⟩ := plain fun _ => .inr (.inr zv)
          have sc := sco _ e2 e3
          rw [md, zv] at sc
          rw [zv] at ev e1
          refine ⟨_, ?_, e4, e5⟩
          simp! only [c3, c5, c9, n9, g9, h1, vb, Option.isSome_some, ev, d6, md, e1, sc]
        · cases old with
          | false =>
            obtain ⟨kvs', e1, e2, e3, e4, e5⟩ := plain fun _ => .inr (.inl rfl)
            have sc := sco _ e2 e3
            rw [md, zv, fen_new] at sc
            rw [zv] at ev e1
            refine ⟨_, ?_, e4, e5⟩
            simp! only [c3, c5, c9, n9, g9, h1, vb, Option.isSome_some, ev, d6, md, fen_new, fn_sl, e1, sc]
          | true =>
            have ob := (h.mkk k0 q rfl).1
            unfold mkO at ob
            obtain ⟨xs1, g, esh⟩ := h.shade hk
            have lw := g.low4
            have l1 : (mkS S 4 q xs1 ((shd (dk, gl) k).2.map (plc B))).length = S.length := mkS_len
            rw [l1] at lw
            have cl : Cld S (mkS S 4 q xs1 ((shd (dk, gl) k).2.map (plc B))) := by
              unfold mkS
              exact (cld_self.set lw).set (low_lst pureAll_ints)
            have f1 : Fr46 S (mkS S 4 q xs1 ((shd (dk, gl) k).2.map (plc B))) n li (some (k0, q)) := by
              unfold mkS
              exact (Fr46.refl.set (.inr (.inr (.inl rfl)))).set (.inr (.inr (.inr (.inl ⟨k0, q, rfl, rfl⟩))))
            obtain ⟨kvs', e1, e2, e3, e4, e5, e6⟩ := give_fin (S := S) g cl l1 f1 ha (v := pT B k) (.inr ⟨k, hk, rfl⟩) hc
            have sc := sco _ e3 e4
            rw [md, zv, fen_old] at sc
            rw [zv] at ev bv
            refine ⟨_, ?_, e5, .look hj hk nj bv rfl rfl e2 fun i hi z => (e6 i hi z).imp id fun q => ?_⟩
            · simp! only [c3, c5, c9, n9, g9, h1, vb, Option.isSome_some, ev, d6, md, fen_old, fo_sl, ob, esh, e1, sc]
            · unfold pT at q
              injection q with q; injection q with _ q; injection q with q; injection q with q
              exact (h.inj i k hi hk (by rw [q]))
    · have d6 : decide ((w : Int) = 6) = false := decide_eq_false (by omega)
      obtain ⟨kvs', e1, e2, e3, e4, e5⟩ := plain fun z => absurd z w6
      have sc := sco _ e2 e3
      refine ⟨_, ?_, e4, e5⟩
      simp! only [c3, c5, c9, n9, g9, h1, vb, Option.isSome_some, ev, d6, e1, sc]
  have c9 : decide ((w : Int) < 9) = false := decide_eq_false (by omega)
  by_cases e9 : w = 9
  · have n9 : decide ((w : Int) = 9) = true := decide_eq_true (by omega)
    have wd := (h.drop1 (.inl (a : Int))).mono (Nat.le_succ c) (by omega)
    refine ⟨_, ?_, Fr46.refl.set (.inr (.inl rfl)), .same wd fun k _ z => nmd_drop z⟩
    unfold f_law_deed b_law_deed
    simp! only [c3, c5, c9, n9, h1]
  have n9 : decide ((w : Int) = 9) = false := decide_eq_false (by omega)
  have g9 : decide (9 < (w : Int)) = true := decide_eq_true (by omega)
  unfold f_law_deed b_law_deed
  cases mo with
  | none =>
    have md : mkD none = .non := rfl
    refine ⟨S, ?_, .refl, .same (h.mono (Nat.le_succ c) (by omega)) fun _ _ z => z⟩
    simp! only [c3, c5, c9, n9, g9, md]
  | some kq =>
    obtain ⟨k0, q⟩ := kq
    have md : mkD (some (k0, q)) = .loc k0 := rfl
    have gv := greyV_spec h.mg.at_
    have ob := (h.mkk k0 q rfl).1
    unfold mkO at ob
    cases gl with
    | nil =>
      have nq : ∀ S, neR (.vl []) (.vl []) S = .ok (.bl false) S := fun S => neR_refl rfl (by decide)
      simp only [List.map_nil] at gv
      refine ⟨S, ?_, .refl, .same (h.mono (Nat.le_succ c) (by omega)) fun _ _ z => z⟩
      simp! only [c3, c5, c9, n9, g9, md, ob, gv, nq]
    | cons k gl0 =>
      obtain ⟨xs', _, g, es⟩ := step_spec h.mg h.hd (by have := h.gl_len; simp at this; omega)
      have gs := h.gs
      have l2 := fold_nd (hs := hold6 n B k) (s := (dk, gl0)) ⟨(List.nodup_cons.mp gs.1).2, fun i hi => gs.2 i (List.mem_cons_of_mem _ hi)⟩
      have w' := (h.of_mg g l2).mono (Nat.le_succ c) (by omega)
      refine ⟨_, ?_, ?_, .step rfl rfl w'⟩
      · obtain ⟨G, hG⟩ : ∃ G, G = (k :: gl0).map (plc B) := ⟨_, rfl⟩
        rw [← hG] at gv
        have nq := fun S => neR_nz (S := S) (c := G) (by rw [hG]; simp)
        simp! only [c3, c5, c9, n9, g9, md, ob, gv, nq, es]
      · unfold mkS
        exact (Fr46.refl.set (.inr (.inr (.inl rfl)))).set (.inr (.inr (.inr (.inl ⟨k0, q, rfl, rfl⟩))))
end

set_option Elab.async false
set_option linter.all false
set_option maxRecDepth 100000
set_option maxHeartbeats 4000000
/-! ### draining -/
def wh (n : Nat) (dk : Nat → Bool) : Nat := ((List.range n).filter fun k => !dk k).length
theorem wh_le (n : Nat) (dk : Nat → Bool) : wh n dk ≤ n := by unfold wh; exact Nat.le_trans (List.length_filter_le ..) (by simp)
theorem filter_len_lt {α : Type} {l : List α} {p q : α → Bool} (h : ∀ x ∈ l, q x = true → p x = true) {a : α} (ha : a ∈ l) (h1 : p a = true) (h2 : q a = false) : (l.filter q).length < (l.filter p).length := by
  induction l with
  | nil => cases ha
  | cons x l ih =>
    have hle : ∀ l : List α, (∀ x ∈ l, q x = true → p x = true) → (l.filter q).length ≤ (l.filter p).length := fun l hl => by
      induction l with
      | nil => exact Nat.le_refl _
      | cons y l ih2 =>
        have i2 := ih2 fun z hz => hl z (List.mem_cons_of_mem _ hz)
        cases hq : q y with
        | true =>
          rw [List.filter_cons_of_pos hq, List.filter_cons_of_pos (hl y List.mem_cons_self hq), List.length_cons, List.length_cons]; omega
        | false =>
          rw [List.filter_cons_of_neg (by rw [hq]; decide)]
          cases hp : p y with
          | true => rw [List.filter_cons_of_pos hp, List.length_cons]; omega
          | false => rw [List.filter_cons_of_neg (by rw [hp]; decide)]; exact i2
    rcases List.mem_cons.mp ha with rfl | ha'
    · rw [List.filter_cons_of_neg (by rw [h2]; decide), List.filter_cons_of_pos h1, List.length_cons]
      have := hle l fun z hz => h z (List.mem_cons_of_mem _ hz)
      omega
    · have i2 := ih (fun z hz => h z (List.mem_cons_of_mem _ hz)) ha'
      cases hq : q x with
      | true => rw [List.filter_cons_of_pos hq, List.filter_cons_of_pos (h x List.mem_cons_self hq), List.length_cons, List.length_cons]; omega
      | false =>
        rw [List.filter_cons_of_neg (by rw [hq]; decide)]
        cases hp : p x with
        | true => rw [List.filter_cons_of_pos hp, List.length_cons]; omega
        | false => rw [List.filter_cons_of_neg (by rw [hp]; decide)]; exact i2
abbrev MSt' := (Nat → Bool) × List Nat
def mu (n : Nat) (s : MSt') : Nat := 2 * wh n s.1 + s.2.length
theorem shd_t {s : MSt'} {k : Nat} (h : s.1 k = true) : shd s k = s := if_pos h
theorem shd_f {s : MSt'} {k : Nat} (h : s.1 k = false) : shd s k = (fun i => if i = k then true else s.1 i, s.2 ++ [k]) := if_neg (by rw [h]; decide)
theorem shd_mono {s : MSt'} {k i : Nat} (h : s.1 i = true) : (shd s k).1 i = true := by
  unfold shd; split
  · exact h
  · dsimp only; split
    · rfl
    · exact h
theorem shd_self {s : MSt'} {k : Nat} : (shd s k).1 k = true := by
  unfold shd; split
  · assumption
  · simp
theorem shd_new {s : MSt'} {k i : Nat} (h : (shd s k).1 i = true) : s.1 i = true ∨ i = k := by
  unfold shd at h; split at h
  · exact .inl h
  · dsimp only at h; split at h
    · exact .inr ‹_›
    · exact .inl h
theorem shd_grey {s : MSt'} {k i : Nat} (h : i ∈ s.2) : i ∈ (shd s k).2 := by
  unfold shd; split
  · exact h
  · exact List.mem_append_left _ h
theorem shd_ng {s : MSt'} {k i : Nat} (h : (shd s k).1 i = true) (h2 : s.1 i = false) : i ∈ (shd s k).2 := by
  rcases shd_new h with z | z
  · rw [h2] at z; cases z
  · subst z; rw [shd_f h2]; simp
theorem wh_lt {n : Nat} {dk dk2 : Nat → Bool} (h : ∀ i, dk i = true → dk2 i = true) {k : Nat} (hk : k < n) (h1 : dk k = false) (h2 : dk2 k = true) : wh n dk2 < wh n dk := by
  unfold wh
  refine filter_len_lt (fun x _ hx => ?_) (List.mem_range.mpr hk) (by rw [h1]; rfl) (by rw [h2]; rfl)
  cases q : dk x with
  | false => rfl
  | true => rw [h x q] at hx; cases hx
theorem wh_mono {n : Nat} {dk dk2 : Nat → Bool} (h : ∀ i, dk i = true → dk2 i = true) : wh n dk2 ≤ wh n dk := by
  by_cases z : ∃ k, k < n ∧ dk k = false ∧ dk2 k = true
  · obtain ⟨k, h1, h2, h3⟩ := z
    exact Nat.le_of_lt (wh_lt h h1 h2 h3)
  · unfold wh
    refine Nat.le_of_eq (congrArg List.length (List.filter_congr fun x hx => ?_))
    cases q : dk x with
    | true => rw [h x q]
    | false =>
      cases q2 : dk2 x with
      | false => rfl
      | true => exact absurd ⟨x, List.mem_range.mp hx, q, q2⟩ z
theorem mu_shd {n : Nat} {s : MSt'} {k : Nat} (hk : k < n) : mu n (shd s k) ≤ mu n s := by
  cases h : s.1 k with
  | true => rw [shd_t h]; exact Nat.le_refl _
  | false =>
    have := wh_lt (n := n) (dk := s.1) (dk2 := (shd s k).1) (fun i hi => shd_mono hi) hk h shd_self
    have e : (shd s k).2.length = s.2.length + 1 := by rw [shd_f h]; simp
    unfold mu
    omega
theorem fold_mono {hs : List Nat} : ∀ {s : MSt'} {i : Nat}, s.1 i = true → (hs.foldl shd s).1 i = true := by
  induction hs with
  | nil => exact fun h => h
  | cons k hs ih => exact fun h => ih (shd_mono h)
theorem fold_all {hs : List Nat} : ∀ {s : MSt'} {i : Nat}, i ∈ hs → (hs.foldl shd s).1 i = true := by
  induction hs with
  | nil => exact fun h => absurd h List.not_mem_nil
  | cons k hs ih =>
    intro s i h
    rcases List.mem_cons.mp h with rfl | h
    · exact fold_mono (hs := hs) shd_self
    · exact ih h
theorem fold_new {hs : List Nat} : ∀ {s : MSt'} {i : Nat}, (hs.foldl shd s).1 i = true → s.1 i = true ∨ i ∈ hs := by
  induction hs with
  | nil => exact fun h => .inl h
  | cons k hs ih =>
    intro s i h
    rcases ih (s := shd s k) h with z | z
    · rcases shd_new z with w | w
      · exact .inl w
      · exact .inr (by rw [w]; exact List.mem_cons_self)
    · exact .inr (List.mem_cons_of_mem _ z)
theorem fold_grey {hs : List Nat} : ∀ {s : MSt'} {i : Nat}, i ∈ s.2 → i ∈ (hs.foldl shd s).2 := by
  induction hs with
  | nil => exact fun h => h
  | cons k hs ih => exact fun h => ih (s := shd _ k) (shd_grey h)
theorem fold_ng {hs : List Nat} : ∀ {s : MSt'} {i : Nat}, (hs.foldl shd s).1 i = true → s.1 i = false → i ∈ (hs.foldl shd s).2 := by
  induction hs with
  | nil => exact fun h h2 => absurd h (by rw [List.foldl_nil, h2]; decide)
  | cons k hs ih =>
    intro s i h h2
    rw [List.foldl_cons] at h ⊢
    cases q : (shd s k).1 i with
    | true => exact fold_grey (shd_ng q h2)
    | false => exact ih h q
theorem mu_fold {n : Nat} {hs : List Nat} : ∀ {s : MSt'}, (∀ h ∈ hs, h < n) → mu n (hs.foldl shd s) ≤ mu n s := by
  induction hs with
  | nil => exact fun _ => Nat.le_refl _
  | cons k hs ih =>
    intro s h
    exact Nat.le_trans (ih (s := shd s k) fun x hx => h x (List.mem_cons_of_mem _ hx)) (mu_shd (h k List.mem_cons_self))
/-- no black one holds a white one -/
def Bw (n : Nat) (hold : Nat → List Nat) (s : MSt') : Prop := ∀ k, k < n → s.1 k = true → k ∉ s.2 → ∀ h ∈ hold k, s.1 h = true
theorem Bw.shd {n : Nat} {hold : Nat → List Nat} {s : MSt'} (h : Bw n hold s) (j : Nat) : Bw n hold (MP.shd s j) := fun k hk h1 h2 x hx => by
  cases q : s.1 k with
  | true => exact shd_mono (h k hk q (fun z => h2 (shd_grey z)) x hx)
  | false => exact absurd (shd_ng h1 q) h2
theorem Bw.stp {n : Nat} {hold : Nat → List Nat} {dk : Nat → Bool} {j : Nat} {gl : List Nat} (h : Bw n hold (dk, j :: gl)) : Bw n hold (MP.stp hold (dk, j :: gl)) := fun k hk h1 h2 x hx => by
  have e : MP.stp hold (dk, j :: gl) = (hold j).foldl MP.shd (dk, gl) := rfl
  rw [e] at h1 h2 ⊢
  by_cases z : k = j
  · subst z; exact fold_all hx
  · cases q : dk k with
    | true =>
      refine fold_mono (h k hk q (fun w => ?_) x hx)
      rcases List.mem_cons.mp w with w | w
      · exact z w
      · exact h2 (fold_grey w)
    | false => exact absurd (fold_ng h1 q) h2
/-- closed sets -/
def Clo (n : Nat) (hold : Nat → List Nat) (wt : Nat → Option (Nat × Option Nat)) (C : Nat → Bool) : Prop :=
  ∀ k, k < n → C k = true → (∀ h ∈ hold k, C h = true) ∧ ∀ a b, wt k = some (a, some b) → C a = true → C b = true
def Sub (n : Nat) (A C : Nat → Bool) : Prop := ∀ k, k < n → A k = true → C k = true
/-- each closed set that has the first has the second -/
def Mn (n : Nat) (hold : Nat → List Nat) (wt : Nat → Option (Nat × Option Nat)) (A B : Nat → Bool) : Prop := ∀ C, Clo n hold wt C → Sub n A C → Sub n B C
/-- what pairs wait for -/
structure Wd (n : Nat) (B : Nat → Ent) (wt : Nat → Option (Nat × Option Nat)) : Prop where
  non : ∀ k, k < n → (B k).t.s ≠ .pair → wt k = none
  pr : ∀ k, k < n → (B k).t.s = .pair → ∃ kv vv, (B k).t.fs = [kv, vv] ∧ match wt k with
    | some (a, some b) => kv = vTh (plc B a) ∧ vv = vTh (plc B b) ∧ a < n ∧ b < n
    | some (a, none) => kv = vTh (plc B a) ∧ isTh vv = false ∧ a < n
    | none => isTh kv = false
/-! ### colours, names shaded, the marking begun (k46, k47, k48) -/
def colS (dk : Nat → Bool) (gl : List Nat) (k : Nat) : Str := if dk k = true then (if k ∈ gl then "grey" else "black") else "white"
def colW (dk : Nat → Bool) (gl : List Nat) (k : Nat) : D := .str (colS dk gl k)
section
variable {S : Sto} {n : Nat} {B : Nat → Ent} {li : Nat → Nat} {kvs : List (Key × D)} {c : Nat} {xs : List D} {dk : Nat → Bool} {mo : Option (Nat × Nat)} {gl : List Nat}
theorem W6.pmem (h : W6 S n B li kvs c xs dk mo gl) {k : Nat} (hk : k < n) : plc B k ∈ gl.map (plc B) ↔ k ∈ gl := by
  rw [List.mem_map]
  constructor
  · rintro ⟨j, hj, e⟩
    rw [← h.inj j k (h.gk j hj) hk (by rw [e])]
    exact hj
  · exact fun z => ⟨k, z, rfl⟩
/-- the marking, with another dict of shapes (a locked one) -/
theorem W6.lock {k0 q : Nat} (h : W6 S n B li kvs c xs dk (some (k0, q)) gl) (o : O) : MkAt (S.set 0 o) 2 3 4 k0 q 6 16 xs (gl.map (plc B)) := by
  obtain ⟨h1, h2, h3, h4⟩ := h.mkk k0 q rfl
  obtain ⟨q1, k1, _⟩ := h.qo rfl
  exact ⟨h.M.oth (by decide) (by decide) (by decide), by rw [List.getElem?_set_ne k1.symm]; exact h1, by rw [List.getElem?_set_ne q1.1.symm]; exact h2, h3, h.mg.at_.sm⟩
theorem W6.col {k0 q : Nat} (h : W6 S n B li kvs c xs dk (some (k0, q)) gl) (o : O) {k : Nat} (hk : k < n) : f_Marking_colour_of [.loc k0, .int (plc B k)] (S.set 0 o) = .ok (.str (colS dk gl k)) (S.set 0 o) := by
  have := colour_spec (h.lock o) (h.lay.atK hk)
  have e1 : (Ed B dk k).b = dk k := rfl
  have e2 : (((Ed B dk k).p : Nat) : Int) = plc B k := rfl
  rw [e1, e2] at this
  rw [this]
  unfold colS
  simp only [h.pmem hk]
theorem W6.lk (h : W6 S n B li kvs c xs dk mo gl) {i : Nat} {kv : Key × D} (e : (shK n B li)[i]? = some kv) : i < n ∧ kv = (.inl (plc B i), .tup [.str (B i).t.s.nm, .loc (li i)]) := by
  unfold shK at e
  rw [List.getElem?_map] at e
  obtain ⟨j, e1, rfl⟩ := Option.map_eq_some_iff.mp e
  have hi := (List.getElem?_eq_some_iff.mp e1).1
  rw [List.length_range] at hi
  rw [List.getElem?_range hi] at e1
  cases e1
  exact ⟨hi, rfl⟩
theorem fold_bw {hold : Nat → List Nat} {js : List Nat} : ∀ {s : (Nat → Bool) × List Nat}, Bw n hold s → Bw n hold (js.foldl shd s) := by
  induction js with
  | nil => intro s h; exact h
  | cons j js ih => intro s h; rw [List.foldl_cons]; exact ih (h.shd j)
theorem ints_kvs : ∀ {kvs : List (Key × D)}, (∀ kv ∈ kvs, ∃ i k : Nat, i < 5 ∧ k < n ∧ kv = (.inl (i : Int), .int (plc B k))) → ∃ ks : List Int, intKeys kvs = some ks ∧ (∀ x, x ∈ ks ↔ ∃ d, (.inl x, d) ∈ kvs)
  | [], _ => ⟨[], rfl, fun x => by simp⟩
  | kv :: r, h => by
    obtain ⟨i, k, _, _, rfl⟩ := h kv List.mem_cons_self
    obtain ⟨ks, e, m⟩ := ints_kvs fun kv hk => h kv (List.mem_cons_of_mem _ hk)
    refine ⟨(i : Int) :: ks, by rw [intKeys, e]; rfl, fun x => ?_⟩
    rw [List.mem_cons, m]
    constructor
    · rintro (rfl | ⟨d, hd⟩)
      · exact ⟨_, List.mem_cons_self⟩
      · exact ⟨d, List.mem_cons_of_mem _ hd⟩
    · rintro ⟨d, hd⟩
      rcases List.mem_cons.mp hd with e | e
      · injection e with e1 _; injection e1 with e1; exact .inl e1
      · exact .inr ⟨d, e⟩
theorem valD_some {kvs : List (Key × D)} {k : Key} {d : D} (h : (k, d) ∈ kvs) : ∃ d', valD kvs k = some d' := by
  unfold valD
  cases e : kvs.find? fun kv => decide (kv.1 = k) with
  | none => rw [List.find?_eq_none] at e; exact absurd (decide_eq_true rfl) (e _ h)
  | some kv => exact ⟨_, rfl⟩
theorem W6.keys (h : W6 S n B li kvs c xs dk mo gl) : ∃ ks : List Int, intKeys kvs = some ks ∧ (∀ x ∈ ks, ∃ j, j < n ∧ valD kvs (.inl x) = some (.int (plc B j)) ∧ Nmd kvs B j) ∧ ∀ j, Nmd kvs B j → ∃ x ∈ ks, valD kvs (.inl x) = some (.int (plc B j)) := by
  obtain ⟨ks, e, m⟩ := ints_kvs h.sl
  refine ⟨ks, e, fun x hx => ?_, fun j ⟨i, hi⟩ => ⟨i, (m i).mpr ⟨_, valD_mem hi⟩, hi⟩⟩
  obtain ⟨d, hd⟩ := (m x).mp hx
  obtain ⟨d', hd'⟩ := valD_some hd
  rcases h.at1' x with z | ⟨j, hj, z, nj⟩
  · rw [z] at hd'; cases hd'
  · exact ⟨j, hj, z, nj⟩
/-- the names are shaded -/
theorem names_shade {k0 q : Nat} (h : W6 S n B li kvs c xs dk (some (k0, q)) gl) {k : Nat} {o : MEx} {ρ : Rho} {ks : List Int} (e : intKeys kvs = some ks) (hk : k < ρ.length) (hs : ρ[k]? = some none)
    (ho : ∀ x S, o (ρ.set k (some x)) S = .ok (.loc k0) S) {oS : MEx} (hoS : ∀ x S, oS (ρ.set k (some x)) S = .ok stT S) (hv : ∀ x : D, (ρ.set k (some x)).set k none = ρ) {r : SR}
    (hr : forX (.nm k) (sClr [k] (sExpr (mMeth .Marking 2 f_Marking_shade o (aCons (mOp2 dGet (mOp2 getI oS (mC (.int 1))) (mVar k)) aNil)))) ((sortI ks).map .int) ρ S = r) :
    ∃ (js : List Nat) (xs' : List D), (∀ j ∈ js, j < n ∧ Nmd kvs B j) ∧ (∀ j, j < n → Nmd kvs B j → j ∈ js) ∧ W6 (mkS S 4 q xs' ((js.foldl shd (dk, gl)).2.map (plc B))) n B li kvs c xs' (js.foldl shd (dk, gl)).1 (some (k0, q)) (js.foldl shd (dk, gl)).2 ∧
      r = .nx ρ (mkS S 4 q xs' ((js.foldl shd (dk, gl)).2.map (plc B))) := by
  obtain ⟨ks', e', hin, hout⟩ := h.keys
  rw [e] at e'
  injection e' with e'
  subst e'
  obtain ⟨ρ', S', rfl, js, xs', j1, j2, w, rfl, rfl⟩ := forN_nx hr (fun i ρ' S' => ∃ (js : List Nat) (xs' : List D), (∀ j ∈ js, j < n ∧ Nmd kvs B j) ∧ (∀ x ∈ (sortI ks).take i, ∀ j, j < n → valD kvs (.inl x) = some (.int (plc B j)) → j ∈ js) ∧
      W6 S' n B li kvs c xs' (js.foldl shd (dk, gl)).1 (some (k0, q)) (js.foldl shd (dk, gl)).2 ∧ ρ = ρ' ∧ S' = mkS S 4 q xs' ((js.foldl shd (dk, gl)).2.map (plc B)))
    ⟨[], xs, fun j hj => (by cases hj), fun x hx => (by simp at hx), h, rfl, (mkS_self h.mg.at_).symm⟩ (by
    clear hr
    rintro i x ρ' S' ei ⟨js, xs', j1, j2, w, rfl, hS⟩
    rw [List.getElem?_map] at ei
    obtain ⟨y, ey, rfl⟩ := Option.map_eq_some_iff.mp ei
    have hy : y ∈ ks := (sortI_perm _).mem_iff.mp (List.mem_of_getElem? ey)
    obtain ⟨j, hj, vj, nj⟩ := hin y hy
    have w1 := w.s1
    obtain ⟨xs2, g, es⟩ := w.shade hj
    have ob := (w.mkk k0 q rfl).1
    unfold mkO at ob
    have vk : (ρ.set k (some (D.int y)))[k]? = some (some (D.int y)) := List.getElem?_set_self hk
    have o1 := ho (.int y)
    have o2 := hoS (.int y)
    have v1 := hv (.int y)
    have e0 : js.foldl shd (dk, gl) = ((js.foldl shd (dk, gl)).1, (js.foldl shd (dk, gl)).2) := rfl
    have ef : (js ++ [j]).foldl shd (dk, gl) = shd (js.foldl shd (dk, gl)) j := by rw [List.foldl_append]; rfl
    rw [← e0, ← ef] at g es
    have hm : mkS S' 4 q xs2 ((((js ++ [j]).foldl shd (dk, gl)).2).map (plc B)) = mkS S 4 q xs2 ((((js ++ [j]).foldl shd (dk, gl)).2).map (plc B)) := by rw [hS, mkS_mkS]
    simp! only [o1, o2, vk, w1, vj, ob, es, v1, stepN_nx]
    refine ⟨js ++ [j], xs2, fun i hi => ?_, fun x hx i hi hv => ?_, g, (by first | rfl | trivial), hm⟩
    · rcases List.mem_append.mp hi with z | z
      · exact j1 i z
      · rw [List.mem_singleton.mp z]; exact ⟨hj, nj⟩
    · rw [List.take_add_one, ey, List.mem_append] at hx
      rcases hx with z | z
      · exact List.mem_append_left _ (j2 x z i hi hv)
      · have : x = y := by simpa using z
        rw [this, vj] at hv
        injection hv with hv
        injection hv with hv
        rw [h.inj i j hi hj (by rw [hv])]
        exact List.mem_append_right _ (List.mem_singleton.mpr rfl))
  rw [List.length_map, List.take_length] at j2
  refine ⟨js, xs', j1, fun j hj nj => ?_, w, rfl⟩
  obtain ⟨x, hx, vx⟩ := hout j nj
  exact j2 x ((sortI_perm _).mem_iff.mpr hx) j hj vx
/-- the marking begins -/
theorem W6.begin (h : W6 S n B li kvs c xs dk none []) : W6 (S ++ [mkO 2 (S.length + 1), .lst []]) n B li kvs c xs dk (some (S.length, S.length + 1)) [] := by
  have h' := h.app (T := [mkO 2 (S.length + 1), .lst []])
  have hl := get_lt h.M.rm.ins
  refine ⟨h'.s0, h'.s1, h'.M, h'.lay, h'.fl, h'.lj, h'.l4, h'.sl, h'.cl, h'.vs, fun k q e => ?_, h'.gk, h'.gs, h'.nn, h'.cc⟩
  cases e
  exact ⟨get_plus (j := 0), get_plus (j := 1), by omega, fun i hi z => by have := get_lt (h.fl i hi); omega⟩
theorem W6.init : W6 [.dct false [], .dct false [], .ins .Memory [(.rooms, .loc 3)], .ins .Rooms [(.many, .int (6 : Nat)), (.cells, .int (16 : Nat)), (.inside, .loc 4)], .lst (nons (6 * 16))] 0 (fun _ => ⟨0, ⟨.weak, [nT], none⟩, 0, false⟩) (fun _ => 5) [] 0 (nons (6 * 16)) (fun _ => false) none [] :=
  ⟨rfl, rfl, ⟨rfl, ⟨rfl, rfl, by rw [nons_len], by decide, by decide, by rw [nons_len]; decide⟩⟩, Lay.empty, fun k hk => (by omega), fun i j hi => (by omega), fun k hk => (by omega), fun kv hk => (by cases hk), Nat.le_refl _, fun k hk => (by omega), fun k q e => (by cases e), fun k hk => (by cases hk), ⟨List.nodup_nil, fun k hk => (by cases hk)⟩, by decide, by decide⟩
end
/-! ### the law's numbers -/
theorem cell_by_spec {z : Int} (hz : z.natAbs < 2 ^ 1048576) (free : Bool) : ∃ y : Int, ∀ S, f_law_cell_by [.int z, .bl free] S = .ok (.int y) S := by
  have q1 := fun S => mul_int (S := S) (tr := false) (i := z) (j := 1583458089) (a := 1048576) (b := 31) hz (by decide) (by decide)
  obtain ⟨x, hx⟩ : ∃ x, x = (z * 1583458089 + 7) % 2305843009213693951 := ⟨_, rfl⟩
  have x0 : 0 ≤ x := by rw [hx]; exact Int.emod_nonneg _ (by decide)
  have x1 : x < 2305843009213693951 := by rw [hx]; exact Int.emod_lt_of_pos _ (by decide)
  have q2 := fun S => mod_int (S := S) (i := z * 1583458089 + 7) (j := 2305843009213693951) (by decide)
  rw [← hx] at q2
  have q3 := fun S => mul_int (S := S) (tr := false) (i := x) (j := 982451653) (a := 61) (b := 30) (by omega) (by decide) (by decide)
  have q4 := fun S => mod_int (S := S) (i := x * 982451653) (j := 2305843009213693951) (by decide)
  have q5 := fun S => fdiv_int (S := S) (i := x * 982451653 % 2305843009213693951) (j := 64) (by decide) (by decide)
  unfold f_law_cell_by b_law_cell_by
  cases free with
  | true => exact ⟨z, fun S => by simp! only []⟩
  | false => exact ⟨x * 982451653 % 2305843009213693951 / 64, fun S => by simp! only [q1, q2, q3, q4, q5]⟩
theorem law_cut_spec (z : Int) : ∃ w a b e d : Nat, w < 12 ∧ a < 5 ∧ b < 5 ∧ e < 5 ∧ d < 4 ∧ ∀ S, f_law_cut [.int z, .vl [.int 12, .int 5, .int 5, .int 5, .int 4]] S = .ok (pP w a b e d) S := by
  obtain ⟨x, hx⟩ : ∃ x, x = if z < 0 then -z else z := ⟨_, rfl⟩
  have tn : ∀ (i n : Int), 0 < n → ∃ k : Nat, i % n = (k : Int) ∧ (k : Int) < n := fun i n h => ⟨(i % n).toNat, by have := Int.emod_nonneg i (show n ≠ 0 by omega); omega, by have := Int.emod_nonneg i (show n ≠ 0 by omega); have := Int.emod_lt_of_pos i h; omega⟩
  obtain ⟨w, hw, w1⟩ := tn x 12 (by decide)
  obtain ⟨a, ha, a1⟩ := tn (x / 12) 5 (by decide)
  obtain ⟨b, hb, b1⟩ := tn (x / 12 / 5) 5 (by decide)
  obtain ⟨e, he, e1⟩ := tn (x / 12 / 5 / 5) 5 (by decide)
  obtain ⟨d, hd, d1⟩ := tn (x / 12 / 5 / 5 / 5) 4 (by decide)
  have mw := fun S => mod_int (S := S) (i := x) (j := 12) (by decide)
  have ma := fun S => mod_int (S := S) (i := x / 12) (j := 5) (by decide)
  have mb := fun S => mod_int (S := S) (i := x / 12 / 5) (j := 5) (by decide)
  have me := fun S => mod_int (S := S) (i := x / 12 / 5 / 5) (j := 5) (by decide)
  have md := fun S => mod_int (S := S) (i := x / 12 / 5 / 5 / 5) (j := 4) (by decide)
  have dw := fun S => fdiv_int (S := S) (i := x) (j := 12) (by decide) (by decide)
  have da := fun S => fdiv_int (S := S) (i := x / 12) (j := 5) (by decide) (by decide)
  have db := fun S => fdiv_int (S := S) (i := x / 12 / 5) (j := 5) (by decide) (by decide)
  have de := fun S => fdiv_int (S := S) (i := x / 12 / 5 / 5) (j := 5) (by decide) (by decide)
  have dd := fun S => fdiv_int (S := S) (i := x / 12 / 5 / 5 / 5) (j := 4) (by decide) (by decide)
  rw [hw] at mw
  rw [ha] at ma
  rw [hb] at mb
  rw [he] at me
  rw [hd] at md
  have l0 : (0 < sizeLine) = True := lt_line (by decide)
  have l1 : (1 < sizeLine) = True := lt_line (by decide)
  have l2 : (2 < sizeLine) = True := lt_line (by decide)
  have l3 : (3 < sizeLine) = True := lt_line (by decide)
  have l4 : (4 < sizeLine) = True := lt_line (by decide)
  refine ⟨w, a, b, e, d, by omega, by omega, by omega, by omega, by omega, fun S => ?_⟩
  unfold f_law_cut b_law_cut
  dsimp! only [← hx, mw, ma, mb, me, md, dw, da, db, de, dd, l0, l1, l2, l3, l4]

set_option Elab.async false
set_option linter.all false
set_option maxRecDepth 100000
set_option maxHeartbeats 4000000
/-! ### what is held, behind a deed -/
section
variable {S : Sto} {n : Nat} {B : Nat → Ent} {li : Nat → Nat} {kvs : List (Key × D)} {c : Nat} {xs : List D} {dk : Nat → Bool} {mo : Option (Nat × Nat)} {gl : List Nat}
theorem ixOf_congr {B' : Nat → Ent} (h : ∀ j, j < n → plc B' j = plc B j) : ixOf n B' = ixOf n B := by
  funext v
  have e : (fun j => j < n ∧ v = pT B' j) = fun j => j < n ∧ v = pT B j := by
    funext j
    refine propext ⟨fun ⟨a, b⟩ => ⟨a, ?_⟩, fun ⟨a, b⟩ => ⟨a, ?_⟩⟩
    · rw [b]; unfold pT; rw [h j a]
    · rw [b]; unfold pT; rw [h j a]
  have key : ∀ P Q : Nat → Prop, P = Q → ∀ (_ : Decidable (∃ j, P j)) (_ : Decidable (∃ j, Q j)), (if h : ∃ j, P j then some h.choose else none) = (if h : ∃ j, Q j then some h.choose else none) := by
    rintro P Q rfl d1 d2
    by_cases h : ∃ j, P j
    · rw [dif_pos h, dif_pos h]
    · rw [dif_neg h, dif_neg h]
  unfold ixOf
  exact key _ _ e _ _
theorem filterMap_cg {α β : Type} {f g : α → Option β} : ∀ {l : List α}, (∀ x ∈ l, f x = g x) → l.filterMap f = l.filterMap g
  | [], _ => rfl
  | x :: l, h => by rw [List.filterMap_cons, List.filterMap_cons, h x List.mem_cons_self, filterMap_cg fun y hy => h y (List.mem_cons_of_mem _ hy)]
theorem W6.hold_new {S' : Sto} {li' : Nat → Nat} {kvs' : List (Key × D)} {c' : Nat} {xs' : List D} {dk' : Nat → Bool} {gl' : List Nat} (h : W6 S n B li kvs c xs dk mo gl) {e : Ent} (h' : W6 S' (n + 1) (upE B n e) li' kvs' c' xs' dk' mo gl') {k : Nat} (hk : k < n) : hold6 (n + 1) (upE B n e) k = hold6 n B k := by
  unfold hold6
  rw [upE_lt hk]
  split
  · refine filterMap_cg fun v hv => ?_
    rcases h.vs k hk v hv with e1 | ⟨j, hj, e1⟩
    · rw [e1, ixOf_no, ixOf_no]
    · have e2 : pT B j = pT (upE B n e) j := by unfold pT; rw [plc_lt hj]
      rw [e1, h.ix hj, e2, h'.ix (by omega)]
  · rfl
theorem hold_put {j i : Nat} {v : D} {t : Th} (ht : t.fs = (B j).t.fs.set i v) (hs : t.s = (B j).t.s) {z : Int} {b : Bool} {k x : Nat} (hx : x ∈ hold6 n (upE B j ⟨(B j).p, t, z, b⟩) k) : x ∈ hold6 n B k ∨ (k = j ∧ ixOf n B v = some x) := by
  unfold hold6 at hx ⊢
  rw [ixOf_congr (B := B) fun j _ => by rw [plc_up]] at hx
  by_cases e : k = j
  · subst e
    rw [upE_n] at hx
    dsimp only at hx
    rw [hs, ht] at hx
    by_cases q : (B k).t.s = .plain
    · rw [if_pos q] at hx ⊢
      obtain ⟨u, hu, eu⟩ := List.mem_filterMap.mp hx
      rcases List.mem_or_eq_of_mem_set hu with hu | hu
      · exact .inl (List.mem_filterMap.mpr ⟨u, hu, eu⟩)
      · rw [hu] at eu; exact .inr ⟨rfl, eu⟩
    · rw [if_neg q] at hx; cases hx
  · have : upE B j ⟨(B j).p, t, z, b⟩ k = B k := if_neg e
    rw [this] at hx
    exact .inl hx
end
/-! ### the law's closing (k47, k48) -/
def addS (T : List Nat) (x : Nat) : List Nat := if x ∈ T then T else T ++ [x]
theorem addS_mem {T : List Nat} {x y : Nat} : y ∈ addS T x ↔ y ∈ T ∨ y = x := by
  unfold addS
  split
  · rename_i h
    exact ⟨.inl, fun z => z.elim id fun e => by rw [e]; exact h⟩
  · simp
theorem addS_pre {T : List Nat} {x : Nat} : ∃ E, addS T x = T ++ E := by
  unfold addS
  split
  · exact ⟨[], by simp⟩
  · exact ⟨[x], rfl⟩
theorem folS_pre {xs : List Nat} : ∀ {T : List Nat}, ∃ E, xs.foldl addS T = T ++ E := by
  induction xs with
  | nil => exact ⟨[], by simp⟩
  | cons x xs ih =>
    intro T
    obtain ⟨E, e⟩ := addS_pre (T := T) (x := x)
    obtain ⟨F, f⟩ := ih (T := addS T x)
    exact ⟨E ++ F, by rw [List.foldl_cons, f, e, List.append_assoc]⟩
theorem folS_mem {xs : List Nat} : ∀ {T : List Nat} {y : Nat}, y ∈ xs.foldl addS T ↔ y ∈ T ∨ y ∈ xs := by
  induction xs with
  | nil => simp
  | cons x xs ih =>
    intro T y
    rw [List.foldl_cons, ih, addS_mem, List.mem_cons, or_assoc]
theorem addS_nd {T : List Nat} (nd : T.Nodup) {x : Nat} : (addS T x).Nodup := by
  unfold addS
  split
  · exact nd
  · rename_i hn
    rw [List.nodup_append]
    exact ⟨nd, by simp, fun a ha b hb => by rw [List.mem_singleton.mp hb]; exact fun z => hn (by rw [← z]; exact ha)⟩
theorem len_lt {n : Nat} {T : List Nat} (nd : T.Nodup) (lt : ∀ x ∈ T, x < n) : T.length ≤ n := nodup_lt_len n nd lt
abbrev Wt := Nat → Option (Nat × Option Nat)
structure Cs6 (n : Nat) (hold : Nat → List Nat) (wt : Wt) (A T : List Nat) : Prop where
  nd : T.Nodup
  lt : ∀ x ∈ T, x < n
  ge : ∀ x ∈ A, x ∈ T
  mn : ∀ C : Nat → Bool, Clo n hold wt C → (∀ x ∈ A, C x = true) → ∀ x ∈ T, C x = true
def mr6 (hold : Nat → List Nat) (wt : Wt) (T : List Nat) (k : Nat) : List Nat := match wt k with
  | some (a, some b) => if a ∈ T then [b] else []
  | some (_, none) => []
  | none => hold k
section
variable {n : Nat} {hold : Nat → List Nat} {wt : Wt} {A T T1 : List Nat}
theorem Cs6.add (h : Cs6 n hold wt A T) {x : Nat} (hx : x < n) (hC : ∀ C : Nat → Bool, Clo n hold wt C → (∀ x ∈ A, C x = true) → C x = true) : Cs6 n hold wt A (addS T x) := by
  refine ⟨addS_nd h.nd, fun y hy => ?_, fun y hy => addS_mem.mpr (.inl (h.ge y hy)), fun C c1 c2 y hy => ?_⟩
  · rcases addS_mem.mp hy with z | z
    · exact h.lt y z
    · rw [z]; exact hx
  · rcases addS_mem.mp hy with z | z
    · exact h.mn C c1 c2 y z
    · rw [z]; exact hC C c1 c2
theorem Cs6.fol {xs : List Nat} : ∀ {T : List Nat}, Cs6 n hold wt A T → (∀ x ∈ xs, x < n ∧ ∀ C : Nat → Bool, Clo n hold wt C → (∀ x ∈ A, C x = true) → C x = true) → Cs6 n hold wt A (xs.foldl addS T) := by
  induction xs with
  | nil => exact fun h _ => h
  | cons x xs ih =>
    intro T h hx
    have := hx x List.mem_cons_self
    exact ih (h.add this.1 this.2) fun y hy => hx y (List.mem_cons_of_mem _ hy)
theorem mr6_mn (h : Cs6 n hold wt A T) (h1 : ∀ x ∈ T1, x ∈ T) {s o : Nat} (hs : s ∈ T) (ho : o ∈ mr6 hold wt T1 s) : ∀ C : Nat → Bool, Clo n hold wt C → (∀ x ∈ A, C x = true) → C o = true := fun C c1 c2 => by
  have cs := c1 s (h.lt s hs) (h.mn C c1 c2 s hs)
  unfold mr6 at ho
  split at ho
  · rename_i a b hw
    split at ho
    · rename_i hk
      rw [List.mem_singleton.mp ho]
      exact cs.2 a b hw (h.mn C c1 c2 a (h1 a hk))
    · cases ho
  · cases ho
  · exact cs.1 o ho
theorem clo6_of (hw : ∀ k, wt k ≠ none → hold k = []) (h : ∀ s ∈ T, ∀ x ∈ mr6 hold wt T s, x ∈ T) : Clo n hold wt (fun x => decide (x ∈ T)) := fun s _ hs => by
  have hs := of_decide_eq_true hs
  have hm := h s hs
  unfold mr6 at hm
  refine ⟨fun o ho => ?_, fun a b e ha => ?_⟩
  · cases e : wt s with
    | none => rw [e] at hm; exact decide_eq_true (hm o ho)
    | some p => rw [hw s (by rw [e]; exact fun z => by cases z)] at ho; cases ho
  · rw [e] at hm
    dsimp only at hm
    rw [if_pos (of_decide_eq_true ha)] at hm
    exact decide_eq_true (hm b List.mem_cons_self)
end
noncomputable def wt6 (n : Nat) (B : Nat → Ent) (k : Nat) : Option (Nat × Option Nat) := if (B k).t.s = .pair then match ixOf n B ((B k).t.fs.getD 0 nT) with
  | some a => some (a, ixOf n B ((B k).t.fs.getD 1 nT))
  | none => none
  else none
def kv6 (B : Nat → Ent) (T : List Nat) : List (Key × D) := T.map fun k => (.inl (plc B k), .bl true)
def pls (B : Nat → Ent) (T : List Nat) : List D := T.map fun k => .int (plc B k)
section
variable {S : Sto} {n : Nat} {B : Nat → Ent} {li : Nat → Nat} {kvs : List (Key × D)} {c : Nat} {xs : List D} {dk : Nat → Bool} {mo : Option (Nat × Nat)} {gl : List Nat}
theorem wt6_hold {k : Nat} (h : wt6 n B k ≠ none) : hold6 n B k = [] := by
  unfold wt6 at h
  split at h
  · rename_i e
    unfold hold6
    rw [if_neg (by rw [e]; decide)]
  · exact absurd rfl h
theorem kv6_len {T : List Nat} : (kv6 B T).length = T.length := by simp [kv6]
theorem pls_len {T : List Nat} : (pls B T).length = T.length := by simp [pls]
theorem kv6_keys {T : List Nat} : (kv6 B T).map (fun kv => keyOf kv.1) = pls B T := by
  unfold kv6 pls
  rw [List.map_map]
  rfl
theorem pls_pure {T : List Nat} : pureAll (pls B T) = true := pureAll_mem.mpr fun x hx => by obtain ⟨k, _, rfl⟩ := List.mem_map.mp hx; rfl
theorem pls_get {T : List Nat} {i : Nat} {x : D} (h : (pls B T)[i]? = some x) : ∃ k, T[i]? = some k ∧ x = .int (plc B k) := by
  unfold pls at h
  rw [List.getElem?_map] at h
  obtain ⟨k, e, rfl⟩ := Option.map_eq_some_iff.mp h
  exact ⟨k, e, rfl⟩
theorem W6.kv_val (h : W6 S n B li kvs c xs dk mo gl) {T : List Nat} (hT : ∀ x ∈ T, x < n) {k : Nat} (hk : k < n) : (valD (kv6 B T) (.inl (plc B k))).isSome = decide (k ∈ T) := by
  by_cases z : k ∈ T
  · obtain ⟨d, hd⟩ := valD_some (kvs := kv6 B T) (k := .inl (plc B k)) (d := .bl true) (List.mem_map.mpr ⟨k, z, rfl⟩)
    rw [hd, decide_eq_true z]; rfl
  · rw [decide_eq_false z, valD_nil fun kv hkv e => ?_]
    · rfl
    · obtain ⟨j, hj, rfl⟩ := List.mem_map.mp hkv
      exact z (by rw [← h.inj j k (hT j hj) hk e]; exact hj)
theorem W6.kv_put (h : W6 S n B li kvs c xs dk mo gl) {T : List Nat} (hT : ∀ x ∈ T, x < n) {k : Nat} (hk : k < n) : putD (kv6 B T) (.inl (plc B k)) (.bl true) = kv6 B (addS T k) := by
  unfold addS
  by_cases z : k ∈ T
  · rw [if_pos z]
    have hany : ((kv6 B T).any fun kv => decide (kv.1 = .inl (plc B k))) = true := List.any_eq_true.mpr ⟨(.inl (plc B k), .bl true), List.mem_map.mpr ⟨k, z, rfl⟩, decide_eq_true rfl⟩
    unfold putD
    rw [if_pos hany]
    conv => rhs; rw [← List.map_id (kv6 B T)]
    refine List.map_congr_left fun kv hkv => ?_
    obtain ⟨j, hj, rfl⟩ := List.mem_map.mp hkv
    split <;> rfl
  · rw [if_neg z, putD_new fun kv hkv e => ?_]
    · unfold kv6; rw [List.map_append]; rfl
    · obtain ⟨j, hj, rfl⟩ := List.mem_map.mp hkv
      exact z (by rw [← h.inj j k (hT j hj) hk e]; exact hj)
theorem rep_lit (x : D) (hp : x.pureB = true) (i : Int) (hi : i = 0 ∨ i = 1) (S : Sto) : mulD false (.vl [x]) (.int i) S = .ok (.vl (if i = 0 then [] else [x])) S := by
  have l1 : (1 : Nat) ≤ sizeLine := by rw [le_line (n := 1) (by decide)]; trivial
  show repL false [x] (.int i) S = _
  unfold repL
  dsimp only
  rcases hi with rfl | rfl
  · rw [if_pos ⟨by decide, by decide, Nat.zero_le _⟩]
    exact newL_f rfl
  · rw [if_pos ⟨by decide, by decide, l1⟩]
    exact newL_f (by simp [pureAll, hp])
theorem rep_nil (S : Sto) : mulD false (.vl []) (.int 0) S = .ok (.vl []) S := by
  show repL false [] (.int 0) S = _
  unfold repL
  dsimp only
  rw [if_pos ⟨by decide, by decide, Nat.zero_le _⟩]
  exact newL_f rfl
theorem set_app {S : Sto} {a b : O} : (S ++ [a]).set S.length b = S ++ [b] := set_last S a b
theorem take_succ_mem {xs : List Nat} {i k : Nat} (h : xs[i]? = some k) {x : Nat} : x ∈ xs.take (i + 1) ↔ x ∈ xs.take i ∨ x = k := by
  rw [List.take_add_one, h, List.mem_append]
  simp
theorem neR_len {a b : Nat} {S : Sto} : neR (.int (a : Int)) (.int (b : Int)) S = .ok (.bl (!decide (a = b))) S := by
  rw [ne_int]
  congr 3
  exact decide_eq_decide.mpr ⟨fun h => Int.ofNat.inj h, fun h => by rw [h]⟩
theorem cl_step (h : W6 S n B li kvs c xs dk mo gl) {A T2 : List Nat} (c2 : Cs6 n (hold6 n B) (wt6 n B) A T2) {j : Nat} (hjT : j ∈ T2) {wl : List D} (wlm : wl.filterMap (ixOf n B) = mr6 (hold6 n B) (wt6 n B) T2 j) (wlv : ∀ v ∈ wl, v = nT ∨ ∃ k, k < n ∧ v = pT B k) {i : Nat} {v : D} (e : wl[i]? = some v) :
    Cs6 n (hold6 n B) (wt6 n B) A (((wl.take i).filterMap (ixOf n B)).foldl addS T2) ∧ ((v = nT ∧ ((wl.take (i + 1)).filterMap (ixOf n B)).foldl addS T2 = ((wl.take i).filterMap (ixOf n B)).foldl addS T2) ∨
      ∃ k, k < n ∧ v = pT B k ∧ ((wl.take (i + 1)).filterMap (ixOf n B)).foldl addS T2 = addS (((wl.take i).filterMap (ixOf n B)).foldl addS T2) k) := by
  refine ⟨c2.fol fun x hx => ?_, ?_⟩
  · obtain ⟨u, hu, eu⟩ := List.mem_filterMap.mp hx
    have hx' : x ∈ mr6 (hold6 n B) (wt6 n B) T2 j := by
      rw [← wlm]
      exact List.mem_filterMap.mpr ⟨u, List.mem_of_mem_take hu, eu⟩
    exact ⟨(ixOf_lt eu).1, mr6_mn c2 (fun _ z => z) hjT hx'⟩
  · have tk : (wl.take (i + 1)).filterMap (ixOf n B) = (wl.take i).filterMap (ixOf n B) ++ (ixOf n B v).toList := by
      rw [List.take_add_one, e, List.filterMap_append]
      congr 1 <;> (cases hr : ixOf n B v <;> simp [hr])
    rw [tk, List.foldl_append]
    rcases wlv v (List.mem_of_getElem? e) with z | ⟨k, hk, z⟩
    · rw [z, ixOf_no]; exact .inl ⟨rfl, rfl⟩
    · rw [z, h.ix hk]; exact .inr ⟨k, hk, rfl, rfl⟩
theorem closing6 (h : W6 S n B li kvs c xs dk mo gl) {A : List Nat} (hA : ∀ x ∈ A, x < n) :
    ∃ T, Cs6 n (hold6 n B) (wt6 n B) A T ∧ Clo n (hold6 n B) (wt6 n B) (fun x => decide (x ∈ T)) ∧ f_law_closing [.loc 0, .vl (pls B A)] S = .ok (.vd ((kv6 B T).map (·.1)) ((kv6 B T).map (·.2))) S := by
  have nn := h.nn
  have n0 := fun T => get_app (T := T) h.s0
  have hl0 := get_lt h.s0
  unfold f_law_closing b_law_closing
  dsimp! only []
  generalize hf : forX _ _ _ _ _ = r
  obtain ⟨ρ', S', rfl, T0, nd0, mem0, rfl, rfl⟩ := forN_nx hf (fun i ρ S' => ∃ T : List Nat, T.Nodup ∧ (∀ x, x ∈ T ↔ x ∈ A.take i) ∧ ρ = [some (.loc 0), some (.vl (pls B A)), some (.loc S.length), none, none, none, none, none, none] ∧ S' = S ++ [.dct false (kv6 B T)])
    ⟨[], List.nodup_nil, fun x => by simp, rfl, rfl⟩ (by
      clear hf
      rintro i x ρ S' e ⟨T, nd, mem, rfl, rfl⟩
      obtain ⟨k, ek, rfl⟩ := pls_get e
      have hk := hA k (List.mem_of_getElem? ek)
      have hT : ∀ x ∈ T, x < n := fun x hx => hA x (List.mem_of_mem_take ((mem x).mp hx))
      have lk' : ((kv6 B T).length < sizeLine) = True := lt_line (by rw [kv6_len]; have := len_lt nd hT; omega)
      have pk := h.kv_put hT hk
      simp! only [get_last, lk', pk, set_app, stepN_nx]
      exact ⟨addS T k, addS_nd nd, fun x => by rw [addS_mem, mem, take_succ_mem ek], (by first | rfl | trivial), (by first | rfl | trivial)⟩)
  have mem0' : ∀ x, x ∈ T0 ↔ x ∈ A := fun x => by
    rw [mem0, List.take_of_length_le (by rw [pls_len]; exact Nat.le_refl _)]
  clear hf
  have c0 : Cs6 n (hold6 n B) (wt6 n B) A T0 := ⟨nd0, fun x hx => hA x ((mem0' x).mp hx), fun x hx => (mem0' x).mpr hx, fun C _ h2 x hx => h2 x ((mem0' x).mp hx)⟩
  simp! only [r_op1, neg_int]
  generalize hf : whileN _ _ _ _ _ = res
  obtain ⟨ρ', S', rfl, T, mny, cc, cl, rfl, rfl⟩ := whileX hf (fun M ρ S' => ∃ (T : List Nat) (mny : Int), Cs6 n (hold6 n B) (wt6 n B) A T ∧ (mny = (T.length : Int) → Clo n (hold6 n B) (wt6 n B) (fun x => decide (x ∈ T))) ∧ (mny ≠ (T.length : Int) → n - T.length < M) ∧
      ρ = [some (.loc 0), some (.vl (pls B A)), some (.loc S.length), none, some (.int mny), none, none, none, none] ∧ S' = S ++ [.dct false (kv6 B T)])
    (fun ρ S' => ∃ (T : List Nat) (mny : Int), Cs6 n (hold6 n B) (wt6 n B) A T ∧ Clo n (hold6 n B) (wt6 n B) (fun x => decide (x ∈ T)) ∧ ρ = [some (.loc 0), some (.vl (pls B A)), some (.loc S.length), none, some (.int mny), none, none, none, none] ∧ S' = S ++ [.dct false (kv6 B T)])
    (n + 1) (by omega) ⟨T0, -1, c0, fun z => by omega, fun _ => by omega, rfl, rfl⟩ (by
    clear hf
    rintro M ρ S' ⟨T1, mny, c1, hF, hM, rfl, rfl⟩
    refine ⟨!decide (mny = (T1.length : Int)), S ++ [.dct false (kv6 B T1)], by simp! only [get_last, kv6_len], fun z => ?_, fun z => ?_⟩
    · simp only [Bool.not_eq_false', decide_eq_true_eq] at z
      exact ⟨T1, mny, c1, hF z, rfl, rfl⟩
    have hmny : mny ≠ (T1.length : Int) := by simpa using z
    have hM := hM hmny
    have t1n := len_lt c1.nd c1.lt
    have lk : (pls B T1).length ≤ 100000 := by rw [pls_len]; omega
    simp! only [get_last, kv6_len, kv6_keys, pls_pure]
    generalize hg : forX _ _ _ _ _ = res2
    obtain ⟨ρ', S', rfl, T2, c2, pre2, e2, rfl, rfl⟩ := forN_nx hg (fun i ρ S' => ∃ (T : List Nat), Cs6 n (hold6 n B) (wt6 n B) A T ∧ (∃ E, T = T1 ++ E) ∧ (T = T1 → ∀ j ∈ T1.take i, ∀ x ∈ mr6 (hold6 n B) (wt6 n B) T1 j, x ∈ T1) ∧
        ρ = [some (.loc 0), some (.vl (pls B A)), some (.loc S.length), none, some (.int (T1.length : Int)), none, none, none, none] ∧ S' = S ++ [.dct false (kv6 B T)])
      ⟨T1, c1, ⟨[], by simp⟩, fun _ j hj => absurd hj (by simp), rfl, rfl⟩ (by
      clear hg
      rintro i x ρ S' e ⟨T2, c2, ⟨E2, pre2⟩, e2, rfl, rfl⟩
      obtain ⟨j, ej, rfl⟩ := pls_get e
      have hjT := List.mem_of_getElem? ej
      have hj := c1.lt j hjT
      have r0 := h.at0 hj
      have fl := fun T => get_app (T := T) (h.fl j hj)
      have okt : (B j).t.Ok := (h.lay.atK hj).ok
      have vsj := h.vs j hj
      have sub : ∀ x ∈ T1, x ∈ T2 := fun x hx => by rw [pre2]; exact List.mem_append_left _ hx
      have len2 := fun {T : List Nat} (c : Cs6 n (hold6 n B) (wt6 n B) A T) => len_lt c.nd c.lt
      have fin : ∀ wl : List D, wl.filterMap (ixOf n B) = mr6 (hold6 n B) (wt6 n B) T2 j → (∀ v ∈ wl, v = nT ∨ ∃ k, k < n ∧ v = pT B k) → Cs6 n (hold6 n B) (wt6 n B) A ((wl.filterMap (ixOf n B)).foldl addS T2) ∧ (∃ E, (wl.filterMap (ixOf n B)).foldl addS T2 = T1 ++ E) ∧ ((wl.filterMap (ixOf n B)).foldl addS T2 = T1 → ∀ j ∈ T1.take (i + 1), ∀ x ∈ mr6 (hold6 n B) (wt6 n B) T1 j, x ∈ T1) := fun wl wlm wlv => by
        obtain ⟨F, hF⟩ := folS_pre (xs := wl.filterMap (ixOf n B)) (T := T2)
        refine ⟨c2.fol fun x hx => ?_, ⟨E2 ++ F, by rw [hF, pre2, List.append_assoc]⟩, fun he j' hj' x hx => ?_⟩
        · obtain ⟨u, _, eu⟩ := List.mem_filterMap.mp hx
          rw [wlm] at hx
          exact ⟨(ixOf_lt eu).1, mr6_mn c2 (fun _ z => z) (sub j hjT) hx⟩
        have e0 : T2 = T1 := by
          have l0 := congrArg List.length he
          rw [hF, List.length_append] at l0
          have l1 := congrArg List.length pre2
          rw [List.length_append] at l1
          have : E2 = [] := List.length_eq_zero_iff.mp (by omega)
          rw [pre2, this, List.append_nil]
        rcases (take_succ_mem ej).mp hj' with q | q
        · exact e2 e0 j' q x hx
        · rw [q] at hx
          rw [e0] at wlm
          have : x ∈ (wl.filterMap (ixOf n B)).foldl addS T2 := folS_mem.mpr (.inr (by rw [wlm]; exact hx))
          rw [he] at this
          exact this
      by_cases hp : (B j).t.s = .plain
      · have nm : (B j).t.s.nm = "plain" := by rw [hp]; rfl
        have wlm : (B j).t.fs.filterMap (ixOf n B) = mr6 (hold6 n B) (wt6 n B) T2 j := by
          unfold mr6 wt6 hold6
          rw [if_neg (by rw [hp]; decide), if_pos hp]
        obtain ⟨f1, f2, f3⟩ := fin _ wlm vsj
        rw [nm] at r0
        simp! only [n0, r0, fl]
        generalize hq : forGo _ _ _ _ _ _ _ = r3
        obtain ⟨ρ', S', rfl, rfl, rfl⟩ := forG_nx hq (B j).t.fs (fun i ρ S' => ρ = [some (.loc 0), some (.vl (pls B A)), some (.loc S.length), some (.int (plc B j)), some (.int (T1.length : Int)), some (.str "plain"), some (.loc (li j)), some (.loc (li j)), none] ∧ S' = S ++ [.dct false (kv6 B ((((B j).t.fs.take i).filterMap (ixOf n B)).foldl addS T2))])
          (Nat.lt_succ_self _) ⟨rfl, rfl⟩ (fun i ρ S' p => by
            obtain ⟨_, rfl⟩ := p
            exact lstGet_ok (fl _) i) (by
          clear hq
          rintro i v ρ S' e ⟨rfl, rfl⟩
          obtain ⟨cN, hv⟩ := cl_step h c2 (sub j hjT) wlm vsj e
          have lk' : ((kv6 B (((((B j).t.fs.take i).filterMap (ixOf n B)).foldl addS T2))).length < sizeLine) = True := lt_line (by rw [kv6_len]; have := len2 cN; omega)
          refine ⟨_, rfl, ?_⟩
          rcases hv with ⟨rfl, e3⟩ | ⟨k, hk, rfl, e3⟩
          · rw [e3]
            simp! only [stepN_nx, and_self]
          · have pk := h.kv_put cN.lt hk
            rw [e3]
            simp! only [stepN_nx, get_last, lk', pk, set_app, and_self])
        rw [List.take_of_length_le (Nat.le_refl _)]
        simp! only [stepN_nx]
        exact ⟨_, f1, f2, f3, (by first | rfl | trivial), (by first | rfl | trivial)⟩
      · by_cases hr : (B j).t.s = .pair
        · have nm : (B j).t.s.nm = "pair" := by rw [hr]; rfl
          have l2 := okt.pr hr
          obtain ⟨x0, x1, hfs⟩ : ∃ x0 x1, (B j).t.fs = [x0, x1] := by
            match hh : (B j).t.fs, l2 with
            | [x0, x1], _ => exact ⟨x0, x1, rfl⟩
          have v0 := vsj x0 (by rw [hfs]; exact List.mem_cons_self)
          have v1 := vsj x1 (by rw [hfs]; simp)
          have p1 : x1.pureB = true := by rcases v1 with rfl | ⟨k, _, rfl⟩ <;> rfl
          have m0 : ∀ S, mulD false (.vl [x1]) (.int 0) S = .ok (.vl []) S := fun S => rep_lit x1 p1 0 (.inl rfl) S
          have m1 : ∀ S, mulD false (.vl [x1]) (.int 1) S = .ok (.vl [x1]) S := fun S => rep_lit x1 p1 1 (.inr rfl) S
          have cu : cutD [x0, x1] (some 1) none = [x1] := cut_from (xs := [x0, x1]) (a := 1)
          rw [nm] at r0
          rw [hfs] at fl
          have we : mr6 (hold6 n B) (wt6 n B) T2 j = match ixOf n B x0 with
              | some a => if a ∈ T2 then (ixOf n B x1).toList else []
              | none => hold6 n B j := by
            unfold mr6 wt6
            rw [if_pos hr, hfs]
            show (match (match ixOf n B x0 with | some a => some (a, ixOf n B x1) | none => none) with | some (a, some b) => _ | some (_, none) => _ | none => _) = _
            cases ixOf n B x0 with
            | none => rfl
            | some a =>
              dsimp only
              cases ixOf n B x1 with
              | none => simp
              | some b => simp
          have hz : hold6 n B j = [] := by unfold hold6; rw [if_neg hp]
          have nil : mr6 (hold6 n B) (wt6 n B) T2 j = [] → _ := fun z => fin [] (by rw [z]; rfl) (fun v hv => by cases hv)
          rcases v0 with z0 | ⟨k, hk, z0⟩
          · have wz : mr6 (hold6 n B) (wt6 n B) T2 j = [] := by rw [we, z0, ixOf_no]; exact hz
            obtain ⟨f1, f2, f3⟩ := nil wz
            rw [z0] at fl cu
            simp! only [n0, r0, fl, cu, m0, Int.ofNat_zero, p1]
            exact ⟨_, f1, f2, f3, (by first | rfl | trivial), (by first | rfl | trivial)⟩
          · rw [z0, h.ix hk] at we
            dsimp only at we
            have kv := h.kv_val c2.lt hk
            rw [z0] at fl cu
            by_cases hkT : k ∈ T2
            · have dk : decide (k ∈ T2) = true := decide_eq_true hkT
              rw [if_pos hkT] at we
              rw [dk] at kv
              have wlm : [x1].filterMap (ixOf n B) = mr6 (hold6 n B) (wt6 n B) T2 j := by
                rw [we]
                cases e5 : ixOf n B x1 <;> simp [e5]
              obtain ⟨f1, f2, f3⟩ := fin [x1] wlm (fun v hv => by rw [List.mem_singleton.mp hv]; exact v1)
              rcases v1 with z1 | ⟨k1, hk1, z1⟩
              · rw [z1] at fl cu m1 p1
                have e6 : [x1].filterMap (ixOf n B) = [] := by simp [z1, ixOf_no]
                rw [e6] at f1 f2 f3
                simp! only [n0, r0, fl, cu, get_last, kv, m1, p1, stepN_nx]
                exact ⟨_, f1, f2, f3, (by first | rfl | trivial), (by first | rfl | trivial)⟩
              · rw [z1] at fl cu m1 p1
                have e6 : [x1].filterMap (ixOf n B) = [k1] := by simp [z1, h.ix hk1]
                rw [e6] at f1 f2 f3
                have lk' : ((kv6 B T2).length < sizeLine) = True := lt_line (by rw [kv6_len]; have := len2 c2; omega)
                have pk := h.kv_put c2.lt hk1
                simp! only [n0, r0, fl, cu, get_last, kv, m1, p1, lk', pk, set_app, stepN_nx]
                exact ⟨_, f1, f2, f3, (by first | rfl | trivial), (by first | rfl | trivial)⟩
            · have dk : decide (k ∈ T2) = false := decide_eq_false hkT
              rw [if_neg hkT] at we
              rw [dk] at kv
              obtain ⟨f1, f2, f3⟩ := nil we
              simp! only [n0, r0, fl, cu, get_last, kv, m0, p1]
              exact ⟨_, f1, f2, f3, (by first | rfl | trivial), (by first | rfl | trivial)⟩
        · have hs : (B j).t.s = .weak := by cases h : (B j).t.s with
            | plain => exact absurd h hp
            | pair => exact absurd h hr
            | weak => rfl
          have nm : (B j).t.s.nm = "weak" := by rw [hs]; rfl
          have l1 := okt.wk hs
          obtain ⟨x0, hfs⟩ : ∃ x0, (B j).t.fs = [x0] := List.length_eq_one_iff.mp l1
          have cu : cutD [x0] (some 1) none = [] := cut_from (xs := [x0]) (a := 1)
          have m0 : ∀ S, mulD false (.vl []) (.int 0) S = .ok (.vl []) S := fun S => rep_nil S
          rw [nm] at r0
          rw [hfs] at fl
          have wz : mr6 (hold6 n B) (wt6 n B) T2 j = [] := by
            unfold mr6 wt6
            rw [if_neg hr]
            unfold hold6
            rw [if_neg hp]
          obtain ⟨f1, f2, f3⟩ := fin [] (by rw [wz]; rfl) (fun v hv => by cases hv)
          simp! only [n0, r0, fl, cu, m0]
          exact ⟨_, f1, f2, f3, (by first | rfl | trivial), (by first | rfl | trivial)⟩)
    obtain ⟨E, pre⟩ := pre2
    have t2n := len_lt c2.nd c2.lt
    have ll := congrArg List.length pre
    rw [List.length_append] at ll
    have e2' : T2 = T1 → ∀ j ∈ T1, ∀ x ∈ mr6 (hold6 n B) (wt6 n B) T1 j, x ∈ T1 := fun z j hj => e2 z j (by rw [List.take_of_length_le (by rw [pls_len]; exact Nat.le_refl _)]; exact hj)
    clear hg
    simp! only []
    refine ⟨n - T1.length, hM, T2, (T1.length : Int), c2, fun z => ?_, fun z => ?_, (by first | rfl | trivial), (by first | rfl | trivial)⟩
    · have hE : E = [] := List.length_eq_zero_iff.mp (by omega)
      rw [hE, List.append_nil] at pre
      rw [pre]
      exact clo6_of (fun k => wt6_hold) (e2' pre)
    · omega)
  refine ⟨T, cc, cl, ?_⟩
  have f1 : fzD (S ++ [.dct false (kv6 B T)]) S.length 8 (.loc 0) = some (.loc 0) := fz_old hl0
  have kp : pureAll ((kv6 B T).map (·.2)) = true := pureAll_mem.mpr fun x hx => by
    obtain ⟨kv, h1, rfl⟩ := List.mem_map.mp hx
    obtain ⟨y, _, rfl⟩ := List.mem_map.mp h1
    rfl
  have pA := pls_pure (B := B) (T := A)
  dsimp! only [get_last, f1, kp, pA]
end

set_option Elab.async false
set_option linter.all false
set_option maxRecDepth 100000
set_option maxHeartbeats 4000000
/-! comprehensions over what is read at each turn -/
noncomputable def lcW (it : MIt) (t : Tg) (tt : MTs) (me : MEx) (ρ : Rho) (S : Sto) : Res D := exitR false S (lcGo it t tt me ρ S.length it.fuel 0 (S ++ [.lst []]))
theorem kLV_ky {l k : Nat} {t : Tg} {tt : MTs} {me : MEx} {own : List Nat} {ρ : Rho} {S : Sto} : kLV S (.ok ⟨kyGet l, k⟩ S) t tt me own ρ = lcW ⟨kyGet l, k⟩ t tt me (clr own ρ) S := rfl
theorem kLV_va {l k : Nat} {t : Tg} {tt : MTs} {me : MEx} {own : List Nat} {ρ : Rho} {S : Sto} : kLV S (.ok ⟨vaGet l, k⟩ S) t tt me own ρ = lcW ⟨vaGet l, k⟩ t tt me (clr own ρ) S := rfl
theorem kLV_ii {l k : Nat} {t : Tg} {tt : MTs} {me : MEx} {own : List Nat} {ρ : Rho} {S : Sto} : kLV S (.ok ⟨iiGet l, k⟩ S) t tt me own ρ = lcW ⟨iiGet l, k⟩ t tt me (clr own ρ) S := rfl
theorem kLV_ll {l k : Nat} {t : Tg} {tt : MTs} {me : MEx} {own : List Nat} {ρ : Rho} {S : Sto} : kLV S (.ok ⟨lstGet l, k⟩ S) t tt me own ρ = lcW ⟨lstGet l, k⟩ t tt me (clr own ρ) S := rfl
theorem lcW_map {t : Tg} {me : MEx} {ρ : Rho} {S : Sto} {xs : List D} {it : MIt} (hf : it.fuel = xs.length + 1) (hg : ∀ i acc, it.get i (S ++ [.lst acc]) = some xs[i]?) (f : D → D)
    (h : ∀ x ∈ xs, ∀ acc, ∃ ρ1, tgM t x ρ (S ++ [.lst acc]) = some ρ1 ∧ me ρ1 (S ++ [.lst acc]) = .ok (f x) (S ++ [.lst acc])) (hl : xs.length ≤ 100000) (hp : pureAll (xs.map f) = true) :
    lcW it t tYesM me ρ S = .ok (.vl (xs.map f)) S := lcG_map hf hg f h hl hp
theorem lcW_fil {t : Tg} {tt : MTs} {me : MEx} {ρ : Rho} {S : Sto} {xs : List D} {it : MIt} (hf : it.fuel = xs.length + 1) (hg : ∀ i acc, it.get i (S ++ [.lst acc]) = some xs[i]?) (b : D → Bool) (f : D → D)
    (h : ∀ x ∈ xs, ∀ acc, ∃ ρ1, tgM t x ρ (S ++ [.lst acc]) = some ρ1 ∧ tt ρ1 (S ++ [.lst acc]) = .ok (b x) (S ++ [.lst acc]) ∧ (b x = true → me ρ1 (S ++ [.lst acc]) = .ok (f x) (S ++ [.lst acc]))) (hl : xs.length ≤ 100000) (hp : pureAll ((xs.filter b).map f) = true) :
    lcW it t tt me ρ S = .ok (.vl ((xs.filter b).map f)) S := lc_val xs b f hf hg h hl hp
/-! ### the old fence: what is named is reached from what is marked -/
section
variable {S : Sto} {n : Nat} {B : Nat → Ent} {li : Nat → Nat} {kvs : List (Key × D)} {c : Nat} {xs : List D} {dk : Nat → Bool} {mo : Option (Nat × Nat)} {gl : List Nat}
def In6 (n : Nat) (B : Nat → Ent) (kvs : List (Key × D)) (dk : Nat → Bool) : Prop := ∀ C, Clo n (hold6 n B) (wt6 n B) C → (∀ k, k < n → dk k = true → C k = true) → ∀ j, j < n → Nmd kvs B j → C j = true
theorem W6.ix_new {S' : Sto} {li' : Nat → Nat} {kvs' : List (Key × D)} {c' : Nat} {xs' : List D} {dk' : Nat → Bool} {gl' : List Nat} (h : W6 S n B li kvs c xs dk mo gl) {e : Ent} (h' : W6 S' (n + 1) (upE B n e) li' kvs' c' xs' dk' mo gl') {v : D} (hv : v = nT ∨ ∃ j, j < n ∧ v = pT B j) : ixOf (n + 1) (upE B n e) v = ixOf n B v := by
  rcases hv with e1 | ⟨j, hj, e1⟩
  · rw [e1, ixOf_no, ixOf_no]
  · have e2 : pT B j = pT (upE B n e) j := by unfold pT; rw [plc_lt hj]
    rw [e1, h.ix hj, e2, h'.ix (by omega)]
theorem W6.getD (h : W6 S n B li kvs c xs dk mo gl) {k i : Nat} (hk : k < n) : (B k).t.fs.getD i nT = nT ∨ ∃ j, j < n ∧ (B k).t.fs.getD i nT = pT B j := by
  rw [List.getD_eq_getElem?_getD]
  cases e : (B k).t.fs[i]? with
  | none => exact .inl rfl
  | some v => exact h.vs k hk v (List.mem_of_getElem? e)
theorem W6.wt_new {S' : Sto} {li' : Nat → Nat} {kvs' : List (Key × D)} {c' : Nat} {xs' : List D} {dk' : Nat → Bool} {gl' : List Nat} (h : W6 S n B li kvs c xs dk mo gl) {e : Ent} (h' : W6 S' (n + 1) (upE B n e) li' kvs' c' xs' dk' mo gl') {k : Nat} (hk : k < n) : wt6 (n + 1) (upE B n e) k = wt6 n B k := by
  unfold wt6
  rw [upE_lt hk, h.ix_new h' (h.getD hk), h.ix_new h' (h.getD hk)]
theorem wt_put {j : Nat} {t : Th} (hs : t.s = (B j).t.s) (hp : (B j).t.s = .plain) {z : Int} {b : Bool} {k : Nat} : wt6 n (upE B j ⟨(B j).p, t, z, b⟩) k = wt6 n B k := by
  unfold wt6
  rw [ixOf_congr (B := B) fun j _ => by rw [plc_up]]
  by_cases e : k = j
  · subst e
    rw [upE_n]
    dsimp only
    rw [hs, if_neg (by rw [hp]; decide), if_neg (by rw [hp]; decide)]
  · have : upE B j ⟨(B j).p, t, z, b⟩ k = B k := if_neg e
    rw [this]
/-- what is held still is, but for what was named -/
theorem hold_was {j i : Nat} {u v : D} {t : Th} (ht : t.fs = (B j).t.fs.set i v) (hs : t.s = (B j).t.s) (hu : (B j).t.fs[i]? = some u) {z : Int} {b : Bool} {k x : Nat} (hx : x ∈ hold6 n B k) : x ∈ hold6 n (upE B j ⟨(B j).p, t, z, b⟩) k ∨ ixOf n B u = some x := by
  unfold hold6 at hx ⊢
  rw [ixOf_congr (B := B) (n := n) (B' := upE B j ⟨(B j).p, t, z, b⟩) fun j _ => by rw [plc_up]]
  by_cases e : k = j
  · subst e
    rw [upE_n]
    dsimp only
    rw [hs, ht]
    by_cases q : (B k).t.s = .plain
    · rw [if_pos q] at hx ⊢
      obtain ⟨w, hw, ew⟩ := List.mem_filterMap.mp hx
      obtain ⟨m, hm⟩ := List.mem_iff_getElem?.mp hw
      by_cases hmi : m = i
      · rw [hmi, hu] at hm
        injection hm with hm
        rw [hm]
        exact .inr ew
      · refine .inl (List.mem_filterMap.mpr ⟨w, ?_, ew⟩)
        refine List.mem_iff_getElem?.mpr ⟨m, ?_⟩
        rw [List.getElem?_set_ne fun z => hmi z.symm]
        exact hm
    · rw [if_neg q] at hx; cases hx
  · have : upE B j ⟨(B j).p, t, z, b⟩ k = B k := if_neg e
    rw [this]
    exact .inl hx
theorem W6.pT_inj (h : W6 S n B li kvs c xs dk mo gl) {i k : Nat} (hi : i < n) (hk : k < n) (e : pT B i = pT B k) : i = k := by
  unfold pT at e
  injection e with e; injection e with _ e; injection e with e; injection e with e
  exact h.inj i k hi hk (by rw [e])
theorem brt_in (h : W6 S n B li kvs c xs dk mo gl) {w j k : Nat} (hj : j < n) (hk : k < n) (bv : Brt n B kvs w j (pT B k)) (hw : w ≠ 6) {C : Nat → Bool} (hC : Clo n (hold6 n B) (wt6 n B) C) (nm : ∀ i, i < n → Nmd kvs B i → C i = true) (nj : Nmd kvs B j) : C k = true := by
  have cj := nm j hj nj
  generalize hv : pT B k = v at bv
  cases bv with
  | no => cases hv
  | self _ => rw [h.pT_inj hk hj hv]; exact cj
  | @get k' _ hk' hp hm =>
    have : k = k' := h.pT_inj hk hk' hv
    subst this
    refine (hC j hj cj).1 k ?_
    unfold hold6
    rw [if_pos hp]
    exact List.mem_filterMap.mpr ⟨_, hm, h.ix hk⟩
  | look hw' _ _ _ => exact absurd hw' hw
  | @find i k' _ hi hk' hp hfs ni =>
    have : k = k' := h.pT_inj hk hk' hv
    subst this
    refine (hC j hj cj).2 i k ?_ (nm i hi ni)
    unfold wt6
    rw [if_pos hp, hfs]
    show (match ixOf n B (pT B i) with | some a => some (a, ixOf n B (pT B k)) | none => none) = _
    rw [h.ix hi, h.ix hk]
theorem in_tr {S' : Sto} (h : W6 S n B li kvs c xs dk mo gl) (t : Tr6 true S S' n B li kvs c dk mo gl) (ni : mo.isSome = true → In6 n B kvs dk) (d0 : mo = none → dk = (fun _ => false) ∧ gl = []) :
    ∃ (n' : Nat) (B' : Nat → Ent) (li' : Nat → Nat) (kvs' : List (Key × D)) (xs' : List D) (dk' : Nat → Bool) (gl' : List Nat), W6 S' n' B' li' kvs' (c + 1) xs' dk' mo gl' ∧ n ≤ n' ∧ n' ≤ n + 1 ∧ (mo.isSome = true → In6 n' B' kvs' dk') ∧ (mo = none → dk' = (fun _ => false) ∧ gl' = []) ∧
      (∀ k, k < n → plc B' k = plc B k) ∧ ∀ k, mo.isSome = true → n ≤ k → k < n' → dk' k = true ∧ k ∉ gl' := by
  have nn : ∀ (dk' : Nat → Bool) (gl' : List Nat) k, mo.isSome = true → n ≤ k → k < n → dk' k = true ∧ k ∉ gl' := fun _ _ k _ a b => by omega
  cases t with
  | same w sub => exact ⟨n, B, li, _, _, dk, gl, w, Nat.le_refl _, Nat.le_succ _, fun z C hC hm j hj nj => ni z C hC hm j hj (sub j hj nj), d0, fun _ _ => rfl, nn dk gl⟩
  | bring hj hk nj bv hw w sub =>
    refine ⟨n, B, li, _, _, dk, gl, w, Nat.le_refl _, Nat.le_succ _, fun z C hC hm i hi nmi => ?_, d0, fun _ _ => rfl, nn dk gl⟩
    rcases sub i hi nmi with q | q
    · exact ni z C hC hm i hi q
    · rw [q]
      refine brt_in h hj hk bv (fun w6 => ?_) hC (ni z C hC hm) nj
      rcases hw w6 with e | e
      · rw [e] at z; cases z
      · cases e
  | look hj hk nj bv hm0 _ w sub =>
    refine ⟨n, B, li, _, _, _, _, w, Nat.le_refl _, Nat.le_succ _, fun z C hC hm i hi nmi => ?_, fun z => (by rw [z] at hm0; cases hm0), fun _ _ => rfl, nn _ _⟩
    rcases sub i hi nmi with q | q
    · exact ni z C hC (fun k hk hd => hm k hk (shd_mono hd)) i hi q
    · rw [q]; exact hm _ hk shd_self
  | new w =>
    rename_i a
    obtain ⟨⟨t, g, p, xs', w', _, _⟩, _⟩ := w
    rw [Bool.and_true] at w'
    refine ⟨n + 1, _, _, _, _, _, gl, w', Nat.le_succ _, Nat.le_refl _, fun z C hC hm i hi nmi => ?_, fun z => ⟨?_, (d0 z).2⟩, fun k hk => plc_lt hk, fun k z h1 h2 => ⟨?_, fun q => by have := h.gk k q; omega⟩⟩
    · have hC' : Clo n (hold6 n B) (wt6 n B) C := fun k hk ck => by
        have := hC k (by omega) ck
        rw [h.hold_new w' hk, h.wt_new w' hk] at this
        exact this
      by_cases e : i = n
      · rw [e]
        exact hm n (by omega) (by dsimp only; rw [if_pos rfl, z])
      · have hi' : i < n := by omega
        refine ni z C hC' (fun k hk hd => hm k (by omega) (by dsimp only; rw [if_neg (by omega)]; exact hd)) i hi' ?_
        obtain ⟨x, hx⟩ := nmi
        rw [plc_lt hi', val_put] at hx
        split at hx
        · injection hx with hx
          injection hx with hx
          have := w'.inj i n (by omega) (by omega) (by
            show (Sum.inl (plc (upE B n _) i) : Key) = .inl (plc (upE B n _) n)
            rw [plc_lt hi', ← hx]
            unfold plc
            rw [upE_n])
          omega
        · exact ⟨x, hx⟩
    · funext k
      rw [(d0 z).1, z]
      split <;> rfl
    · rw [if_pos (by omega), z]
  | put hj nj hp hu hv hs w =>
    rename_i j i u v xs' s
    refine ⟨n, _, _, _, _, _, _, w, Nat.le_refl _, Nat.le_succ _, fun z C hC hm i' hi' nmi => ?_, fun z => ?_, fun k _ => by rw [plc_up], nn _ _⟩
    · rcases hs with ⟨e, _⟩ | ⟨_, hs⟩
      · rw [e] at z; cases z
      · have hs : ShV n B u (dk, gl) s := hs
        have b1 : (∀ k, dk k = true → s.1 k = true) ∧ ∀ x, ixOf n B u = some x → s.1 x = true := by
          rcases hs with ⟨e1, rfl⟩ | ⟨k, hk, e1, rfl⟩
          · exact ⟨fun k hk => hk, fun x hx => by rw [e1, ixOf_no] at hx; cases hx⟩
          · exact ⟨fun k hk => shd_mono hk, fun x hx => by rw [e1, h.ix hk] at hx; cases hx; exact shd_self⟩
        have hC' : Clo n (hold6 n B) (wt6 n B) C := fun k hk ck => by
          have q := hC k hk ck
          rw [wt_put (B := B) (j := j) (t := (B j).t.setF i v) rfl hp] at q
          refine ⟨fun x hx => ?_, q.2⟩
          rcases hold_was (B := B) (j := j) (i := i) (u := u) (v := v) (t := (B j).t.setF i v) (z := (B j).n) (b := (B j).b) rfl rfl hu hx with y | y
          · exact q.1 x y
          · exact hm x (ixOf_lt y).1 (b1.2 x y)
        refine ni z C hC' (fun k hk hd => hm k hk (b1.1 k hd)) i' hi' ?_
        obtain ⟨y, hy⟩ := nmi
        rw [plc_up] at hy
        exact ⟨y, hy⟩
    · rcases hs with ⟨_, e⟩ | ⟨e, _⟩
      · rw [e]; exact d0 z
      · rw [z] at e; cases e
  | step hm0 hg w =>
    subst hg
    refine ⟨n, B, li, _, _, _, _, w, Nat.le_refl _, Nat.le_succ _, fun z C hC hm i hi nmi => ni z C hC (fun k hk hd => hm k hk (fold_mono hd)) i hi nmi, fun z => ?_, fun _ _ => rfl, nn _ _⟩
    rw [z] at hm0; cases hm0
theorem held47 {k0 q : Nat} (h : W6 S n B li kvs c xs dk (some (k0, q)) gl) (ni : In6 n B kvs dk) : f_law_held [stT, .loc k0] S = .ok (.bl true) S := by
  obtain ⟨K, hK⟩ : ∃ K, K = shK n B li := ⟨_, rfl⟩
  have h0 := h.s0
  have h1 := h.s1
  have nn := h.nn
  rw [← hK] at h0
  have hl0 := get_lt h0
  have hl1 := get_lt h1
  obtain ⟨SL, hSL⟩ : ∃ SL, SL = S.set 0 (.dct true K) := ⟨_, rfl⟩
  have n1 : ∀ T, (SL ++ T)[0]? = some (.dct true K) := fun T => get_app (by rw [hSL]; exact List.getElem?_set_self hl0)
  have n1' : SL[0]? = some (.dct true K) := by rw [hSL]; exact List.getElem?_set_self hl0
  have hb : SL.set 0 (.dct false K) = S := by rw [hSL, List.set_set]; exact set_same h0
  have ML : MemAt SL 2 3 4 6 16 xs := by rw [hSL]; exact h.M.oth (by decide) (by decide) (by decide)
  have Kl : K.length = n := by rw [hK, shK_len]
  have Kk : K.map (fun kv => keyOf kv.1) = pls B (List.range n) := by rw [hK]; unfold shK pls; rw [List.map_map]; rfl
  obtain ⟨A, hA⟩ : ∃ A, A = (List.range n).filter dk := ⟨_, rfl⟩
  have An : ∀ x ∈ A, x < n := fun x hx => by rw [hA] at hx; exact List.mem_range.mp (List.mem_filter.mp hx).1
  have nd : (pls B (List.range n)).Nodup := by
    unfold pls
    rw [List.Nodup, List.pairwise_map]
    refine List.nodup_range.imp_of_mem fun {a b} ha hb e z => e (h.inj a b (List.mem_range.mp ha) (List.mem_range.mp hb) ?_)
    injection z with z
    rw [z]
  obtain ⟨bf, hbf⟩ : ∃ bf : D → Bool, ∀ k, k < n → bf (.int (plc B k)) = dk k := by
    classical
    refine ⟨fun d => decide (∃ k, k < n ∧ d = .int (plc B k) ∧ dk k = true), fun k hk => ?_⟩
    cases e : dk k with
    | true => exact decide_eq_true ⟨k, hk, rfl, e⟩
    | false =>
      refine decide_eq_false fun ⟨j, hj, e1, e2⟩ => ?_
      injection e1 with e1
      rw [h.inj k j hk hj (by rw [e1]), e2] at e
      cases e
  have em : ((pls B (List.range n)).filter bf).map (fun d => d) = pls B A := by
    rw [List.map_id', hA]
    unfold pls
    rw [List.filter_map]
    congr 1
    refine List.filter_congr fun k hk => ?_
    exact hbf k (List.mem_range.mp hk)
  have lc : ∀ (ρ : Rho) (h4 : 4 < ρ.length) (h0' : ρ[0]? = some (some stT)), lcW ⟨kyGet 0, K.length + 1⟩ (.nm 4) (mTest (mMeth .Memory 2 f_Memory_marked_at (mOp2 getI (mVar 0) (mC (.int 2))) (aCons (mVar 4) aNil))) (mVar 4) ρ SL = .ok (.vl (pls B A)) SL := fun ρ h4 h0' => by
    have := lcW_fil (t := .nm 4) (tt := mTest (mMeth .Memory 2 f_Memory_marked_at (mOp2 getI (mVar 0) (mC (.int 2))) (aCons (mVar 4) aNil))) (me := mVar 4) (ρ := ρ) (S := SL) (xs := K.map fun kv => keyOf kv.1) (it := ⟨kyGet 0, K.length + 1⟩) (by rw [List.length_map]) (fun i acc => kyGet_ok (n1 [.lst acc]) i) bf (fun d => d) (fun x hx acc => by
      rw [Kk] at hx
      obtain ⟨k, hk, rfl⟩ := List.mem_map.mp hx
      have hk := List.mem_range.mp hk
      have hv : (ρ.set 4 (some (D.int (plc B k))))[4]? = some (some (D.int (plc B k))) := List.getElem?_set_self h4
      have hv0 : (ρ.set 4 (some (D.int (plc B k))))[0]? = some (some stT) := by rw [List.getElem?_set_ne (by decide)]; exact h0'
      have MA := ML.app (T := [.lst acc])
      have ma := marked_at_spec MA (h.lay.atK hk)
      have e1 : (Ed B dk k).b = dk k := rfl
      have e2 : (((Ed B dk k).p : Nat) : Int) = plc B k := rfl
      rw [e1, e2] at ma
      have ob := MA.ob
      rw [hbf k hk]
      refine ⟨_, rfl, ?_, fun _ => ?_⟩
      · simp! only [hv, hv0, ob, ma]
      · simp! only [hv]) (by rw [Kk, pls_len, List.length_range]; omega) (by rw [Kk, em]; exact pls_pure)
    rw [Kk, em] at this
    exact this
  obtain ⟨T, cs, clo, ecl⟩ := closing6 h An
  obtain ⟨SM, hSM⟩ : ∃ SM, SM = S.set 1 (.dct true kvs) := ⟨_, rfl⟩
  have m1 : SM[1]? = some (.dct true kvs) := by rw [hSM]; exact List.getElem?_set_self hl1
  have mb : SM.set 1 (.dct false kvs) = S := by rw [hSM, List.set_set]; exact set_same h1
  have zp : ((kv6 B T).map (·.1)).zip ((kv6 B T).map (·.2)) = kv6 B T := by
    generalize kv6 B T = l
    induction l with
    | nil => rfl
    | cons a r ih => rw [List.map_cons, List.map_cons, List.zip_cons_cons, ih]
  unfold f_law_held b_law_held
  simp! only [h0, ← hSL, n1', kLV_ky, lc, hb, ecl, h1, ← hSM, m1]
  generalize hf : forGo _ _ _ _ _ _ _ = r
  obtain ⟨ρ', S', rfl, rfl, rfl⟩ := forK_nx hf kvs (fun i ρ S' => ρ = [some (stT), some (.loc k0), some (.vd ((kv6 B T).map (·.1)) ((kv6 B T).map (·.2))), none, none] ∧ SM = S') (Nat.lt_succ_self _) ⟨rfl, rfl⟩ (fun i ρ S' p => by
    obtain ⟨_, rfl⟩ := p
    exact m1) (by
    clear hf
    rintro i kv ρ S' e ⟨rfl, rfl⟩
    obtain ⟨x, k, hx, hk, rfl⟩ := h.sl kv (List.mem_of_getElem? e)
    have ko : keyOf (.inl (x : Int)) = .int (x : Int) := rfl
    obtain ⟨d', hd'⟩ := valD_some (List.mem_of_getElem? e)
    rcases h.at1' (x : Int) with z | ⟨j, hj, z, nj⟩
    · rw [z] at hd'; cases hd'
    have kv := h.kv_val cs.lt hj
    have jT : decide (j ∈ T) = true := ni (fun x => decide (x ∈ T)) clo (fun k hk hd => decide_eq_true (cs.ge k (by rw [hA]; exact List.mem_filter.mpr ⟨List.mem_range.mpr hk, hd⟩))) j hj nj
    rw [jT] at kv
    simp! only [ko, m1, z, zp, kv, stepN_nx, and_self])
  clear hf
  simp! only [m1, mb]
end

set_option Elab.async false
set_option linter.all false
set_option maxRecDepth 100000
set_option maxHeartbeats 4000000
theorem law_true : ∀ ns : List Int, ns.length ≤ 63 → (∀ z ∈ ns, Builtin.Int.intBits z ≤ 1048576) → ∃ S', f_law [scr ns] [] = .ok (.bl true) S' := by
  intro ns hlen hbit
  have nb : ∀ z ∈ ns, z.natAbs < 2 ^ 1048576 := fun z hz => bits_lt (hbit z hz)
  obtain ⟨first, hfirst⟩ : ∃ first : Int, first = if ns.getD 0 0 < 0 then -(ns.getD 0 0) else ns.getD 0 0 := ⟨_, rfl⟩
  have ce := fun S => cell_at_0 (ns := ns) S
  have cut : cutD (ns.map D.int) (some 1) (some 63) = ((ns.drop 1).take 62).map D.int := by
    have := cut_both (xs := ns.map D.int) (a := 1) (b := 63)
    rw [List.map_take, List.map_drop]
    exact this
  obtain ⟨cs, hcs⟩ : ∃ cs, cs = (ns.drop 1).take 62 := ⟨_, rfl⟩
  rw [← hcs] at cut
  have hb : ∀ z ∈ cs, z.natAbs < 2 ^ 1048576 := fun z hz => nb z (List.mem_of_mem_drop (List.mem_of_mem_take (by rw [hcs] at hz; exact hz)))
  have hcl : cs.length ≤ 62 := by rw [hcs, List.length_take]; omega
  have p1 : pureAll (cs.map D.int) = true := pureAll_ints
  have lcs : (cs.map D.int).length = cs.length := List.length_map _
  have mi : f_Memory_init [.loc 2, .int 6, .int 16] [.dct false [], .dct false [], .ins .Memory []] = .ok .non [.dct false [], .dct false [], .ins .Memory [(.rooms, .loc 3)], .ins .Rooms [(.many, .int (6 : Nat)), (.cells, .int (16 : Nat)), (.inside, .loc 4)], .lst (nons (6 * 16))] :=
    mem_init_spec (S := [.dct false [], .dct false [], .ins .Memory []]) (many := 6) (cells := 16) (m := 2) (by decide) (by decide) (by decide) rfl
  have fn : ∀ S, f_fence_of [.str "old"] S = .ok (fenD true) S := fun S => by
    unfold f_fence_of b_fence_of
    simp! only []
    rfl
  have d2 := fun S => fdiv_int (S := S) (i := first) (j := 2) (by decide) (by decide)
  have m24 := fun S => mod_int (S := S) (i := first / 2) (j := 24) (by decide)
  have m2 := fun S => mod_int (S := S) (i := first) (j := 2) (by decide)
  obtain ⟨st, hst⟩ : ∃ st, st = first / 2 % 24 := ⟨_, rfl⟩
  rw [← hst] at m24
  obtain ⟨fr, hfr⟩ : ∃ fr : Bool, fr = decide (first % 2 = 0) := ⟨_, rfl⟩
  have i0 := W6.init
  obtain ⟨Z0, hZ0⟩ : ∃ Z0 : Sto, Z0 = [.dct false [], .dct false [], .ins .Memory [(.rooms, .loc 3)], .ins .Rooms [(.many, .int (6 : Nat)), (.cells, .int (16 : Nat)), (.inside, .loc 4)], .lst (nons (6 * 16))] := ⟨_, rfl⟩
  rw [← hZ0] at mi i0
  unfold f_law b_law
  have rgn : ∀ S, itR1 [.int (cs.length : Int)] S = some ⟨fixGet (rngL 0 cs.length), cs.length + 1⟩ := fun S => rg1n (by omega)
  simp! only [scr, ce, cut, p1, lcs, ← hfirst, mi, fn, rgn]
  generalize hf : forX _ _ _ _ _ = r
  obtain ⟨ρ', S', rfl⟩ : ∃ ρ' S', r = .nx ρ' S' := by
    obtain ⟨ρ', S', rfl, _⟩ := forR_nx hf (fun i ρ S => ∃ (n : Nat) (B : Nat → Ent) (li : Nat → Nat) (kvs : List (Key × D)) (xs : List D) (dk : Nat → Bool) (mo : Option (Nat × Nat)) (gl : List Nat), W6 S n B li kvs i xs dk mo gl ∧ n ≤ i ∧ (mo.isSome = true → In6 n B kvs dk ∧ st < (i : Int)) ∧ (mo = none → dk = (fun _ => false) ∧ gl = []) ∧
      ρ = [some (.cl (ns.map .int)), some (.int first), some (stT), some (fenD true), some (mkD mo), some (.vl (cs.map .int)), none, none, none, none]) ⟨0, _, _, [], _, _, none, [], i0, Nat.le_refl _, fun z => (by cases z), fun _ => ⟨rfl, rfl⟩, rfl⟩ (by
      clear hf
      rintro i ρ S hi ⟨n, B, li, kvs, xs, dk, mo, gl, w, hn, hbw, hno, rfl⟩
      simp only [Int.zero_add]
      have gk : atI (cs.map D.int) (i : Int) = some (.int cs[i]) := atI_nat (by simp [hi])
      obtain ⟨y, hy⟩ := cell_by_spec (hb _ (List.getElem_mem hi)) fr
      obtain ⟨cw, ca, cb, ce', cd, w1, w2, w3, w4, w5, hcut⟩ := law_cut_spec y
      simp! only [d2, m24]
      generalize hq : kClr (kSIf _ _ _ _) [8] = r
      obtain ⟨S1, mo1, dk1, gl1, xs1, v1, hbw1, hno1, rfl⟩ : ∃ (S1 : Sto) (mo1 : Option (Nat × Nat)) (dk1 : Nat → Bool) (gl1 : List Nat) (xs1 : List D), W6 S1 n B li kvs i xs1 dk1 mo1 gl1 ∧ (mo1.isSome = true → In6 n B kvs dk1 ∧ st < ((i + 1 : Nat) : Int)) ∧ (mo1 = none → dk1 = (fun _ => false) ∧ gl1 = []) ∧
          r = .nx [some (.cl (ns.map .int)), some (.int first), some (stT), some (fenD true), some (mkD mo1), some (.vl (cs.map .int)), some (.int (i : Int)), none, none, none] S1 := by
        rw [← hq]
        by_cases hc : (i : Int) = st
        · have dc : decide ((i : Int) = st) = true := decide_eq_true hc
          have hmo : mo = none := by
            cases mo with
            | none => rfl
            | some _ => have := (hbw rfl).2; omega
          subst hmo
          obtain ⟨rfl, rfl⟩ := hno rfl
          have md : mkD none = .non := rfl
          have wb := w.begin
          have s1 := wb.s1
          obtain ⟨ks, ek, _, _⟩ := wb.keys
          have so : ∀ S, sortO false none (some kvs) S = .ok (.vl ((sortI ks).map .int)) S := fun S => (sortO_d ek).trans (newL_f pureAll_ints)
          have mi2 : f_Marking_init [.loc S.length, .loc 2] (S ++ [.ins .Marking []]) = .ok .non (S ++ [mkO 2 (S.length + 1), .lst []]) := by
            have := mk_init_spec (S := S ++ [.ins .Marking []]) (k := S.length) (m := 2) (get_last _ _)
            rw [set_last, List.append_assoc] at this
            simpa using this
          simp! only [dc, mi2, s1, so]
          generalize hg : forX _ _ _ _ _ = r2
          obtain ⟨js, xs', _, j2, w', rfl⟩ := names_shade wb (o := mVar 4) (oS := mVar 2) ek (by simp) rfl (fun x S => by simp! only []) (fun x S => by simp! only []) (fun x => rfl) hg
          refine ⟨_, some (S.length, S.length + 1), _, _, xs', w', fun _ => ⟨fun C hC hm j hj nj => hm j hj (fold_all (j2 j hj nj)), by omega⟩, fun z => (by cases z), ?_⟩
          clear hg
          simp! only []
          rfl
        · have dc : decide ((i : Int) = st) = false := decide_eq_false hc
          refine ⟨S, mo, dk, gl, xs, w, fun z => ⟨(hbw z).1, by have := (hbw z).2; omega⟩, hno, ?_⟩
          simp! only [dc]
      clear hq
      have s0 := v1.s0
      obtain ⟨K0, hK0⟩ : ∃ K0, K0 = shK n B li := ⟨_, rfl⟩
      rw [← hK0] at s0
      have va := v1.app (T := [.dct false K0])
      obtain ⟨S2, ed, f2, t2⟩ := deed_spec va true (w := cw) (a := ca) (b := cb) (e := ce') (d := cd) w2 w5 (by omega) (by omega)
      obtain ⟨n', B', li', kvs', xs', dk', gl', v2, h1, h2, bw2, no2, pl2, wh2⟩ := in_tr va t2 (fun z => (hbw1 z).1) hno1
      have l4 : 4 < S1.length := get_lt v1.M.rm.ins
      have q0 : S2[S1.length]? = some (.dct false K0) := by
        rw [f2.2 S1.length (by simp) (by omega) (by omega) (by omega) (fun k q e => by have := get_lt (v1.mkk k q e).2.1; omega) (fun k hk => by have := get_lt (v1.fl k hk); omega)]
        exact get_last _ _
      have stp : stepN (fun ρ S => ∃ (n : Nat) (B : Nat → Ent) (li : Nat → Nat) (kvs : List (Key × D)) (xs : List D) (dk : Nat → Bool) (mo : Option (Nat × Nat)) (gl : List Nat), W6 S n B li kvs (i + 1) xs dk mo gl ∧ n ≤ i + 1 ∧ (mo.isSome = true → In6 n B kvs dk ∧ st < ((i + 1 : Nat) : Int)) ∧ (mo = none → dk = (fun _ => false) ∧ gl = []) ∧
          ρ = [some (.cl (ns.map .int)), some (.int first), some (stT), some (fenD true), some (mkD mo), some (.vl (cs.map .int)), none, none, none, none]) (.nx [some (.cl (ns.map .int)), some (.int first), some (stT), some (fenD true), some (mkD mo1), some (.vl (cs.map .int)), none, none, none, none] S2) := ⟨n', B', li', kvs', xs', dk', mo1, gl', v2, by omega, fun z => ⟨bw2 z, (hbw1 z).2⟩, no2, rfl⟩
      refine cast (congrArg (stepN _) (Eq.symm ?_)) stp
      cases mo1 with
      | none =>
        have md : mkD none = .non := rfl
        rw [md] at ed ⊢
        simp! only [s0, gk, m2, ← hfr, hy, hcut, ed]
      | some kq =>
        obtain ⟨k0, q⟩ := kq
        have md : mkD (some (k0, q)) = .loc k0 := rfl
        rw [md] at ed ⊢
        obtain ⟨K2, hK2⟩ : ∃ K2, K2 = shK n' B' li' := ⟨_, rfl⟩
        have t0 := v2.s0
        rw [← hK2] at t0
        have hl2 := get_lt t0
        obtain ⟨SL, hSL⟩ : ∃ SL, SL = S2.set 0 (.dct true K2) := ⟨_, rfl⟩
        have n1 : SL[0]? = some (.dct true K2) := by rw [hSL]; exact List.getElem?_set_self hl2
        have hbk : SL.set 0 (.dct false K2) = S2 := by rw [hSL, List.set_set]; exact set_same t0
        have ob := (v2.lock (.dct true K2)).ob
        rw [← hSL] at ob
        unfold mkO at ob
        have co := fun (k : Nat) (hk : k < n') => v2.col (.dct true K2) hk
        rw [← hSL] at co
        have q1 : SL[S1.length]? = some (.dct false K0) := by rw [hSL, List.getElem?_set_ne (by omega)]; exact q0
        have hd := held47 v2 (bw2 rfl)
        simp! only [s0, gk, m2, ← hfr, hy, hcut, ed, t0, ← hSL, n1]
        generalize hf : forGo _ _ _ _ _ _ _ = r
        obtain ⟨ρ', S', rfl, rfl, rfl⟩ := forK_nx hf K2 (fun _ ρ S' => ρ = [some (.cl (ns.map .int)), some (.int first), some (stT), some (fenD true), some (.loc k0), some (.vl (cs.map .int)), some (.int (i : Int)), some (.loc S1.length), none, none] ∧ SL = S') (Nat.lt_succ_self _) ⟨rfl, rfl⟩ (fun i ρ S' p => by
          obtain ⟨_, rfl⟩ := p
          exact n1) (by
          clear hf
          rintro j kv ρ S' e ⟨rfl, rfl⟩
          rw [hK2] at e
          obtain ⟨hj, rfl⟩ := v2.lk e
          have ko : keyOf (.inl (plc B' j)) = .int (plc B' j) := rfl
          cases hv : (valD K0 (.inl (plc B' j))).isSome with
          | true => simp! only [ko, q1, hv, Bool.not_true, stepN_nx, and_self]
          | false =>
            have nj : n ≤ j := Nat.not_lt.mp fun z => by
              rw [pl2 j z, hK0, v1.at0 z] at hv
              cases hv
            have cj := co j hj
            have wj : colS dk' gl' j = "black" := by unfold colS; rw [if_pos (wh2 j rfl nj hj).1, if_neg (wh2 j rfl nj hj).2]
            rw [wj] at cj
            simp! only [ko, q1, hv, Bool.not_false, ob, cj, stepN_nx, and_self])
        clear hf
        simp! only [n1, hbk, hd])
    exact ⟨ρ', S', rfl⟩
  simp! only []
  exact ⟨_, rfl⟩
end MP

set_option Elab.async false
set_option linter.all false
set_option maxRecDepth 100000
set_option maxHeartbeats 4000000
open PySem PySem.W PyProof.Rows
set_option maxRecDepth 100000 in
set_option maxHeartbeats 0 in
theorem PySem.Challenge.cw_heapsafe_k47_old_fence_holds_holds : PySem.Challenge.rw_heapsafe_k47_old_fence_holds.Holds := by
  w_on; o_law; k_head; (case hw => w_witness2)
  k_fill
  refine MP.walk (l := PySem.Challenge.rw_heapsafe_k47_old_fence_holds) rfl rfl MP.law_true (fun w h Y => PySem.W.kIn_of Y) ?F
  case F =>
    intro w mg fa h KX Gn hmg
    refine' MP.all_mk KX Gn hmg ?aC_Fence ?pg_Fence ?hd_Fence ?po_Fence ?sa_Fence ?mk_Fence ?kc_Fence ?aC_Marking ?pg_Marking ?hd_Marking ?po_Marking ?sa_Marking ?mk_Marking ?kc_Marking ?n_Marking_memory ?n_Marking_line ?aC_Memory ?pg_Memory ?hd_Memory ?po_Memory ?sa_Memory ?mk_Memory ?kc_Memory ?n_Memory_rooms ?aC_New ?pg_New ?hd_New ?po_New ?sa_New ?mk_New ?kc_New ?aC_Old ?pg_Old ?hd_Old ?po_Old ?sa_Old ?mk_Old ?kc_Old ?aC_Pair ?pg_Pair ?hd_Pair ?po_Pair ?sa_Pair ?mk_Pair ?kc_Pair ?n_Pair_row ?aC_Plain ?pg_Plain ?hd_Plain ?po_Plain ?sa_Plain ?mk_Plain ?kc_Plain ?n_Plain_row ?n_Plain_last_words ?aC_Rooms ?pg_Rooms ?hd_Rooms ?po_Rooms ?sa_Rooms ?mk_Rooms ?kc_Rooms ?n_Rooms_many ?n_Rooms_cells ?n_Rooms_inside ?aC_Thing ?pg_Thing ?hd_Thing ?po_Thing ?sa_Thing ?mk_Thing ?kc_Thing ?n_Thing_row ?g_law_cell_at ?l_law_cell_at ?c_law_cell_at1 ?k_law_cell_at ?g_law_cell_by ?l_law_cell_by ?c_law_cell_by1 ?k_law_cell_by ?g_law_cut ?l_law_cut ?c_law_cut1 ?k_law_cut ?g_law_brought ?l_law_brought ?c_law_brought1 ?k_law_brought ?g_law_give ?l_law_give ?c_law_give1 ?k_law_give ?g_header ?l_header ?c_header1 ?k_header ?g_words_cell ?l_words_cell ?c_words_cell1 ?k_words_cell ?l_Pair_sort_of ?c_Pair_sort_of1 ?k_Pair_sort_of ?i_Pair_sort_of ?l_Plain_sort_of ?c_Plain_sort_of1 ?k_Plain_sort_of ?i_Plain_sort_of ?l_Plain_words ?c_Plain_words1 ?k_Plain_words ?i_Plain_words ?l_Thing_fields ?c_Thing_fields1 ?k_Thing_fields ?i_Thing_fields ?l_Thing_sort_of ?c_Thing_sort_of1 ?k_Thing_sort_of ?i_Thing_sort_of ?l_Thing_words ?c_Thing_words1 ?k_Thing_words ?i_Thing_words ?g_laid ?l_laid ?c_laid1 ?k_laid ?l_Rooms_fill_in ?c_Rooms_fill_in1 ?k_Rooms_fill_in ?i_Rooms_fill_in ?l_Rooms_gap_in ?c_Rooms_gap_in1 ?k_Rooms_gap_in ?i_Rooms_gap_in ?l_Rooms_gap ?c_Rooms_gap1 ?k_Rooms_gap ?i_Rooms_gap ?l_Memory_put_in ?c_Memory_put_in1 ?k_Memory_put_in ?i_Memory_put_in ?g_law_made ?l_law_made ?c_law_made1 ?k_law_made ?l_Thing_init ?c_Thing_init1 ?k_Thing_init ?i_Thing_init ?g_pair ?l_pair ?c_pair1 ?k_pair ?l_Plain_init ?c_Plain_init1 ?k_Plain_init ?i_Plain_init ?g_plain ?l_plain ?c_plain1 ?k_plain ?g_weak ?l_weak ?c_weak1 ?k_weak ?g_law_new ?l_law_new ?c_law_new1 ?k_law_new ?g_is_marked ?l_is_marked ?c_is_marked1 ?k_is_marked ?l_Rooms_read ?c_Rooms_read1 ?k_Rooms_read ?i_Rooms_read ?l_Memory_marked_at ?c_Memory_marked_at1 ?k_Memory_marked_at ?i_Memory_marked_at ?g_has_words ?l_has_words ?c_has_words1 ?k_has_words ?g_kind_in ?l_kind_in ?c_kind_in1 ?k_kind_in ?g_size_in ?l_size_in ?c_size_in1 ?k_size_in ?g_with_mark ?l_with_mark ?c_with_mark1 ?k_with_mark ?l_Rooms_write ?c_Rooms_write1 ?k_Rooms_write ?i_Rooms_write ?l_Memory_set_mark ?c_Memory_set_mark1 ?k_Memory_set_mark ?i_Memory_set_mark ?l_Marking_shade ?c_Marking_shade1 ?k_Marking_shade ?i_Marking_shade ?l_Memory_sort_at ?c_Memory_sort_at1 ?k_Memory_sort_at ?i_Memory_sort_at ?l_Memory_first_field ?c_Memory_first_field1 ?k_Memory_first_field ?i_Memory_first_field ?l_Memory_set_field ?c_Memory_set_field1 ?k_Memory_set_field ?i_Memory_set_field ?g_is_thing ?l_is_thing ?c_is_thing1 ?k_is_thing ?g_named_by ?l_named_by ?c_named_by1 ?k_named_by ?l_New_put_shades ?c_New_put_shades1 ?k_New_put_shades ?i_New_put_shades ?l_Old_put_shades ?c_Old_put_shades1 ?k_Old_put_shades ?i_Old_put_shades ?g_law_put ?l_law_put ?c_law_put1 ?k_law_put ?l_Fence_marks_new ?c_Fence_marks_new1 ?k_Fence_marks_new ?i_Fence_marks_new ?l_Fence_shades_look ?c_Fence_shades_look1 ?k_Fence_shades_look ?i_Fence_shades_look ?l_Marking_grey ?c_Marking_grey1 ?k_Marking_grey ?i_Marking_grey ?g_made_of ?l_made_of ?c_made_of1 ?k_made_of ?l_Memory_size_at ?c_Memory_size_at1 ?k_Memory_size_at ?i_Memory_size_at ?l_Memory_thing_at ?c_Memory_thing_at1 ?k_Memory_thing_at ?i_Memory_thing_at ?l_Plain_holds ?c_Plain_holds1 ?k_Plain_holds ?i_Plain_holds ?l_Thing_holds ?c_Thing_holds1 ?k_Thing_holds ?i_Thing_holds ?l_Marking_step ?c_Marking_step1 ?k_Marking_step ?i_Marking_step ?l_Old_marks_new ?c_Old_marks_new1 ?k_Old_marks_new ?i_Old_marks_new ?l_Old_shades_look ?c_Old_shades_look1 ?k_Old_shades_look ?i_Old_shades_look ?g_law_deed ?l_law_deed ?c_law_deed1 ?k_law_deed ?g_law_closing ?l_law_closing ?c_law_closing1 ?k_law_closing ?g_law_held ?l_law_held ?c_law_held1 ?k_law_held ?g_fence_of ?l_fence_of ?c_fence_of1 ?k_fence_of ?l_Marking_colour_of ?c_Marking_colour_of1 ?k_Marking_colour_of ?i_Marking_colour_of ?l_Marking_init ?c_Marking_init1 ?k_Marking_init ?i_Marking_init ?l_Rooms_init ?c_Rooms_init1 ?k_Rooms_init ?i_Rooms_init ?l_Memory_init ?c_Memory_init1 ?k_Memory_init ?i_Memory_init ?g_law ?l_law ?c_law1 ?k_law ?f_Marking_init1 ?f_Marking_colour_of1 ?f_Marking_grey1 ?f_Marking_shade1 ?f_Marking_step1 ?f_Memory_init1 ?f_Memory_first_field1 ?f_Memory_marked_at1 ?f_Memory_put_in1 ?f_Memory_set_field1 ?f_Memory_set_mark1 ?f_Memory_size_at1 ?f_Memory_sort_at1 ?f_Memory_thing_at1 ?f_New_marks_new1 ?f_New_put_shades1 ?f_New_shades_look1 ?f_Old_marks_new1 ?f_Old_put_shades1 ?f_Old_shades_look1 ?f_Pair_init1 ?f_Pair_fields1 ?f_Pair_holds1 ?f_Pair_sort_of1 ?f_Pair_words1 ?f_Plain_init1 ?f_Plain_fields1 ?f_Plain_holds1 ?f_Plain_sort_of1 ?f_Plain_words1 ?f_Rooms_init1 ?f_Rooms_fill_in1 ?f_Rooms_gap1 ?f_Rooms_gap_in1 ?f_Rooms_read1 ?f_Rooms_write1 ?f_Thing_init1 ?f_Thing_fields1 ?f_Thing_holds1 ?f_Thing_sort_of1 ?f_Thing_words1 ?i0_New ?i0_Old ?rd_Thing ?ga_Thing ?u_Thing_init ?aK_NOTHING ?lK_NOTHING ?aK_SORTS ?lK_SORTS ?z_abs ?z_dict ?z_enumerate ?z_int ?z_len ?z_list ?z_range ?z_sorted MP.law_true
    (case aC_Fence => k_is)
    (case aC_Marking => k_is)
    (case aC_Memory => k_is)
    (case aC_New => k_is)
    (case aC_Old => k_is)
    (case aC_Pair => k_is)
    (case aC_Plain => k_is)
    (case aC_Rooms => k_is)
    (case aC_Thing => k_is)
    (case aK_NOTHING => k_is)
    (case aK_SORTS => k_is)
    (case f_Marking_init1 => k_is)
    (case f_Marking_colour_of1 => k_is)
    (case f_Marking_grey1 => k_is)
    (case f_Marking_shade1 => k_is)
    (case f_Marking_step1 => k_is)
    (case f_Memory_init1 => k_is)
    (case f_Memory_first_field1 => k_is)
    (case f_Memory_marked_at1 => k_is)
    (case f_Memory_put_in1 => k_is)
    (case f_Memory_set_field1 => k_is)
    (case f_Memory_set_mark1 => k_is)
    (case f_Memory_size_at1 => k_is)
    (case f_Memory_sort_at1 => k_is)
    (case f_Memory_thing_at1 => k_is)
    (case f_New_marks_new1 => k_is)
    (case f_New_put_shades1 => k_is)
    (case f_New_shades_look1 => k_is)
    (case f_Old_marks_new1 => k_is)
    (case f_Old_put_shades1 => k_is)
    (case f_Old_shades_look1 => k_is)
    (case f_Pair_init1 => k_is)
    (case f_Pair_fields1 => k_is)
    (case f_Pair_holds1 => k_is)
    (case f_Pair_sort_of1 => k_is)
    (case f_Pair_words1 => k_is)
    (case f_Plain_init1 => k_is)
    (case f_Plain_fields1 => k_is)
    (case f_Plain_holds1 => k_is)
    (case f_Plain_sort_of1 => k_is)
    (case f_Plain_words1 => k_is)
    (case f_Rooms_init1 => k_is)
    (case f_Rooms_fill_in1 => k_is)
    (case f_Rooms_gap1 => k_is)
    (case f_Rooms_gap_in1 => k_is)
    (case f_Rooms_read1 => k_is)
    (case f_Rooms_write1 => k_is)
    (case f_Thing_init1 => k_is)
    (case f_Thing_fields1 => k_is)
    (case f_Thing_holds1 => k_is)
    (case f_Thing_sort_of1 => k_is)
    (case f_Thing_words1 => k_is)
    (case u_Thing_init => k_is)
    (case pg_Fence => k_is)
    (case hd_Fence => k_is)
    (case po_Fence => k_is)
    (case sa_Fence => k_is)
    (case mk_Fence => k_is)
    (case kc_Fence => k_is)
    (case pg_Marking => k_is)
    (case hd_Marking => k_is)
    (case po_Marking => k_is)
    (case sa_Marking => k_is)
    (case mk_Marking => k_is)
    (case kc_Marking => k_is)
    (case n_Marking_memory => k_is)
    (case n_Marking_line => k_is)
    (case pg_Memory => k_is)
    (case hd_Memory => k_is)
    (case po_Memory => k_is)
    (case sa_Memory => k_is)
    (case mk_Memory => k_is)
    (case kc_Memory => k_is)
    (case n_Memory_rooms => k_is)
    (case pg_New => k_is)
    (case hd_New => k_is)
    (case po_New => k_is)
    (case sa_New => k_is)
    (case mk_New => k_is)
    (case kc_New => k_is)
    (case pg_Old => k_is)
    (case hd_Old => k_is)
    (case po_Old => k_is)
    (case sa_Old => k_is)
    (case mk_Old => k_is)
    (case kc_Old => k_is)
    (case pg_Pair => k_is)
    (case hd_Pair => k_is)
    (case po_Pair => k_is)
    (case sa_Pair => k_is)
    (case mk_Pair => k_is)
    (case kc_Pair => k_is)
    (case n_Pair_row => k_is)
    (case pg_Plain => k_is)
    (case hd_Plain => k_is)
    (case po_Plain => k_is)
    (case sa_Plain => k_is)
    (case mk_Plain => k_is)
    (case kc_Plain => k_is)
    (case n_Plain_row => k_is)
    (case n_Plain_last_words => k_is)
    (case pg_Rooms => k_is)
    (case hd_Rooms => k_is)
    (case po_Rooms => k_is)
    (case sa_Rooms => k_is)
    (case mk_Rooms => k_is)
    (case kc_Rooms => k_is)
    (case n_Rooms_many => k_is)
    (case n_Rooms_cells => k_is)
    (case n_Rooms_inside => k_is)
    (case pg_Thing => k_is)
    (case hd_Thing => k_is)
    (case po_Thing => k_is)
    (case sa_Thing => k_is)
    (case mk_Thing => k_is)
    (case kc_Thing => k_is)
    (case n_Thing_row => k_is)
    (case g_law_cell_at => k_is)
    (case l_law_cell_at => k_is)
    (case c_law_cell_at1 => k_is)
    (case k_law_cell_at => k_is)
    (case g_law_cell_by => k_is)
    (case l_law_cell_by => k_is)
    (case c_law_cell_by1 => k_is)
    (case k_law_cell_by => k_is)
    (case g_law_cut => k_is)
    (case l_law_cut => k_is)
    (case c_law_cut1 => k_is)
    (case k_law_cut => k_is)
    (case g_law_brought => k_is)
    (case l_law_brought => k_is)
    (case c_law_brought1 => k_is)
    (case k_law_brought => k_is)
    (case g_law_give => k_is)
    (case l_law_give => k_is)
    (case c_law_give1 => k_is)
    (case k_law_give => k_is)
    (case g_header => k_is)
    (case l_header => k_is)
    (case c_header1 => k_is)
    (case k_header => k_is)
    (case g_words_cell => k_is)
    (case l_words_cell => k_is)
    (case c_words_cell1 => k_is)
    (case k_words_cell => k_is)
    (case l_Pair_sort_of => k_is)
    (case c_Pair_sort_of1 => k_is)
    (case k_Pair_sort_of => k_is)
    (case i_Pair_sort_of => k_is)
    (case l_Plain_sort_of => k_is)
    (case c_Plain_sort_of1 => k_is)
    (case k_Plain_sort_of => k_is)
    (case i_Plain_sort_of => k_is)
    (case l_Plain_words => k_is)
    (case c_Plain_words1 => k_is)
    (case k_Plain_words => k_is)
    (case i_Plain_words => k_is)
    (case l_Thing_fields => k_is)
    (case c_Thing_fields1 => k_is)
    (case k_Thing_fields => k_is)
    (case i_Thing_fields => k_is)
    (case l_Thing_sort_of => k_is)
    (case c_Thing_sort_of1 => k_is)
    (case k_Thing_sort_of => k_is)
    (case i_Thing_sort_of => k_is)
    (case l_Thing_words => k_is)
    (case c_Thing_words1 => k_is)
    (case k_Thing_words => k_is)
    (case i_Thing_words => k_is)
    (case g_laid => k_is)
    (case l_laid => k_is)
    (case c_laid1 => k_is)
    (case k_laid => k_is)
    (case l_Rooms_fill_in => k_is)
    (case c_Rooms_fill_in1 => k_is)
    (case k_Rooms_fill_in => k_is)
    (case i_Rooms_fill_in => k_is)
    (case l_Rooms_gap_in => k_is)
    (case c_Rooms_gap_in1 => k_is)
    (case k_Rooms_gap_in => k_is)
    (case i_Rooms_gap_in => k_is)
    (case l_Rooms_gap => k_is)
    (case c_Rooms_gap1 => k_is)
    (case k_Rooms_gap => k_is)
    (case i_Rooms_gap => k_is)
    (case l_Memory_put_in => k_is)
    (case c_Memory_put_in1 => k_is)
    (case k_Memory_put_in => k_is)
    (case i_Memory_put_in => k_is)
    (case g_law_made => k_is)
    (case l_law_made => k_is)
    (case c_law_made1 => k_is)
    (case k_law_made => k_is)
    (case l_Thing_init => k_is)
    (case c_Thing_init1 => k_is)
    (case k_Thing_init => k_is)
    (case i_Thing_init => k_is)
    (case g_pair => k_is)
    (case l_pair => k_is)
    (case c_pair1 => k_is)
    (case k_pair => k_is)
    (case l_Plain_init => k_is)
    (case c_Plain_init1 => k_is)
    (case k_Plain_init => k_is)
    (case i_Plain_init => k_is)
    (case g_plain => k_is)
    (case l_plain => k_is)
    (case c_plain1 => k_is)
    (case k_plain => k_is)
    (case g_weak => k_is)
    (case l_weak => k_is)
    (case c_weak1 => k_is)
    (case k_weak => k_is)
    (case g_law_new => k_is)
    (case l_law_new => k_is)
    (case c_law_new1 => k_is)
    (case k_law_new => k_is)
    (case g_is_marked => k_is)
    (case l_is_marked => k_is)
    (case c_is_marked1 => k_is)
    (case k_is_marked => k_is)
    (case l_Rooms_read => k_is)
    (case c_Rooms_read1 => k_is)
    (case k_Rooms_read => k_is)
    (case i_Rooms_read => k_is)
    (case l_Memory_marked_at => k_is)
    (case c_Memory_marked_at1 => k_is)
    (case k_Memory_marked_at => k_is)
    (case i_Memory_marked_at => k_is)
    (case g_has_words => k_is)
    (case l_has_words => k_is)
    (case c_has_words1 => k_is)
    (case k_has_words => k_is)
    (case g_kind_in => k_is)
    (case l_kind_in => k_is)
    (case c_kind_in1 => k_is)
    (case k_kind_in => k_is)
    (case g_size_in => k_is)
    (case l_size_in => k_is)
    (case c_size_in1 => k_is)
    (case k_size_in => k_is)
    (case g_with_mark => k_is)
    (case l_with_mark => k_is)
    (case c_with_mark1 => k_is)
    (case k_with_mark => k_is)
    (case l_Rooms_write => k_is)
    (case c_Rooms_write1 => k_is)
    (case k_Rooms_write => k_is)
    (case i_Rooms_write => k_is)
    (case l_Memory_set_mark => k_is)
    (case c_Memory_set_mark1 => k_is)
    (case k_Memory_set_mark => k_is)
    (case i_Memory_set_mark => k_is)
    (case l_Marking_shade => k_is)
    (case c_Marking_shade1 => k_is)
    (case k_Marking_shade => k_is)
    (case i_Marking_shade => k_is)
    (case l_Memory_sort_at => k_is)
    (case c_Memory_sort_at1 => k_is)
    (case k_Memory_sort_at => k_is)
    (case i_Memory_sort_at => k_is)
    (case l_Memory_first_field => k_is)
    (case c_Memory_first_field1 => k_is)
    (case k_Memory_first_field => k_is)
    (case i_Memory_first_field => k_is)
    (case l_Memory_set_field => k_is)
    (case c_Memory_set_field1 => k_is)
    (case k_Memory_set_field => k_is)
    (case i_Memory_set_field => k_is)
    (case g_is_thing => k_is)
    (case l_is_thing => k_is)
    (case c_is_thing1 => k_is)
    (case k_is_thing => k_is)
    (case g_named_by => k_is)
    (case l_named_by => k_is)
    (case c_named_by1 => k_is)
    (case k_named_by => k_is)
    (case l_New_put_shades => k_is)
    (case c_New_put_shades1 => k_is)
    (case k_New_put_shades => k_is)
    (case i_New_put_shades => k_is)
    (case l_Old_put_shades => k_is)
    (case c_Old_put_shades1 => k_is)
    (case k_Old_put_shades => k_is)
    (case i_Old_put_shades => k_is)
    (case g_law_put => k_is)
    (case l_law_put => k_is)
    (case c_law_put1 => k_is)
    (case k_law_put => k_is)
    (case l_Fence_marks_new => k_is)
    (case c_Fence_marks_new1 => k_is)
    (case k_Fence_marks_new => k_is)
    (case i_Fence_marks_new => k_is)
    (case l_Fence_shades_look => k_is)
    (case c_Fence_shades_look1 => k_is)
    (case k_Fence_shades_look => k_is)
    (case i_Fence_shades_look => k_is)
    (case l_Marking_grey => k_is)
    (case c_Marking_grey1 => k_is)
    (case k_Marking_grey => k_is)
    (case i_Marking_grey => k_is)
    (case g_made_of => k_is)
    (case l_made_of => k_is)
    (case c_made_of1 => k_is)
    (case k_made_of => k_is)
    (case l_Memory_size_at => k_is)
    (case c_Memory_size_at1 => k_is)
    (case k_Memory_size_at => k_is)
    (case i_Memory_size_at => k_is)
    (case l_Memory_thing_at => k_is)
    (case c_Memory_thing_at1 => k_is)
    (case k_Memory_thing_at => k_is)
    (case i_Memory_thing_at => k_is)
    (case l_Plain_holds => k_is)
    (case c_Plain_holds1 => k_is)
    (case k_Plain_holds => k_is)
    (case i_Plain_holds => k_is)
    (case l_Thing_holds => k_is)
    (case c_Thing_holds1 => k_is)
    (case k_Thing_holds => k_is)
    (case i_Thing_holds => k_is)
    (case l_Marking_step => k_is)
    (case c_Marking_step1 => k_is)
    (case k_Marking_step => k_is)
    (case i_Marking_step => k_is)
    (case l_Old_marks_new => k_is)
    (case c_Old_marks_new1 => k_is)
    (case k_Old_marks_new => k_is)
    (case i_Old_marks_new => k_is)
    (case l_Old_shades_look => k_is)
    (case c_Old_shades_look1 => k_is)
    (case k_Old_shades_look => k_is)
    (case i_Old_shades_look => k_is)
    (case g_law_deed => k_is)
    (case l_law_deed => k_is)
    (case c_law_deed1 => k_is)
    (case k_law_deed => k_is)
    (case g_law_closing => k_is)
    (case l_law_closing => k_is)
    (case c_law_closing1 => k_is)
    (case k_law_closing => k_is)
    (case g_law_held => k_is)
    (case l_law_held => k_is)
    (case c_law_held1 => k_is)
    (case k_law_held => k_is)
    (case g_fence_of => k_is)
    (case l_fence_of => k_is)
    (case c_fence_of1 => k_is)
    (case k_fence_of => k_is)
    (case l_Marking_colour_of => k_is)
    (case c_Marking_colour_of1 => k_is)
    (case k_Marking_colour_of => k_is)
    (case i_Marking_colour_of => k_is)
    (case l_Marking_init => k_is)
    (case c_Marking_init1 => k_is)
    (case k_Marking_init => k_is)
    (case i_Marking_init => k_is)
    (case l_Rooms_init => k_is)
    (case c_Rooms_init1 => k_is)
    (case k_Rooms_init => k_is)
    (case i_Rooms_init => k_is)
    (case l_Memory_init => k_is)
    (case c_Memory_init1 => k_is)
    (case k_Memory_init => k_is)
    (case i_Memory_init => k_is)
    (case g_law => k_is)
    (case l_law => k_is)
    (case c_law1 => k_is)
    (case k_law => k_is)
    (case i0_New => k_is)
    (case i0_Old => k_is)
    (case rd_Thing => k_is)
    (case ga_Thing => k_is)
    (case lK_NOTHING => k_is)
    (case lK_SORTS => k_is)
    (case z_abs => k_is)
    (case z_dict => k_is)
    (case z_enumerate => k_is)
    (case z_int => k_is)
    (case z_len => k_is)
    (case z_list => k_is)
    (case z_range => k_is)
    (case z_sorted => k_is)
#print axioms PySem.Challenge.cw_heapsafe_k47_old_fence_holds_holds
