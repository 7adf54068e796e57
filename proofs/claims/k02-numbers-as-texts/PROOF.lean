import PyProof.Rows.All
import Wide.All
import OpenK.AllK
import Wide.FinOn
import HandS.ForMost
import HandS.ForExc
import HandS.Wide
import HandS.TupAny
import HandS.Style
import HandS.Text
import HandS.IsInst
import PyProof.Rows.StrMul
import HandS.NoneIn
import HandS.WordsDict
import HandS.Iter
import HandS.Zip
import HandS.Rev
import HandS.RevRange
import HandS.List
import HandS.EndBits
import PySem.Challenge.RW_brooktally_k02_numbers_as_texts
set_option Elab.async false
set_option linter.all false
set_option maxRecDepth 100000
namespace Vi
open PySem L2

/-- a value by its content; box i: the i-th box of the store -/
inductive D where
  | non | bl (b : Bool) | int (i : Int) | str (s : Str)
  | tup (xs : List D) | lst (xs : List D) | dct (kvs : List (D × D)) | box (i : Nat)
deriving Inhabited

def kD : Key → D
  | .inl i => .int i
  | .inr x => .str x
def kDs (ks : List Key) : D := .tup (ks.map kD)

section
variable (F : Hp) (al : List Addr)
mutual
def Rp : D → V → Prop
  | .non, v => v = .non
  | .bl b, v => v = .bl b
  | .int i, v => v = .int i
  | .str s, v => v = .str s ∧ PyData.strOk s = true
  | .tup ds, v => ∃ a vs, v = .ref a ∧ F a = some (.tup vs) ∧ Rps ds vs
  | .lst ds, v => ∃ a vs, v = .ref a ∧ Rd F a (.lst vs) ∧ Rps ds vs
  | .dct kvs, v => ∃ a, v = .ref a ∧ ((∃ l, F a = some (.dK l) ∧ Rkv kvs l) ∨ (∃ l, F a = some (.dT l) ∧ Rkt kvs l))
  | .box i, v => ∃ a, al[i]? = some a ∧ v = .ref a
def Rps : List D → List V → Prop
  | [], vs => vs = []
  | d :: ds, vs => ∃ v r, vs = v :: r ∧ Rp d v ∧ Rps ds r
def Rkv : List (D × D) → List (Key × V) → Prop
  | [], l => l = []
  | (k, d) :: ds, l => ∃ kk v r, l = (kk, v) :: r ∧ k = kD kk ∧ Rp d v ∧ Rkv ds r
/-- tuple keys: not empty (the empty dict is of the first kind) -/
def Rkt : List (D × D) → List (List Key × V) → Prop
  | [], _ => False
  | (k, d) :: ds, l => ∃ kk v r, l = (kk, v) :: r ∧ k = kDs kk ∧ Rp d v ∧ (ds = [] ∧ r = [] ∨ Rkt ds r)
end
end
end Vi

namespace Vi
open PySem L2

/-! ### the state -/
/-- what stands in a box: a list, a dict, an instance of the c-th class -/
inductive Bx where
  | lst (ds : List D) | dct (kvs : List (D × D)) | ins (c : Nat) (fs : List (Str × D))
/-- a local: no value; a value, whether its list or dict is the local's own; a caught exception -/
inductive Ent where
  | no | val (d : D) (own : Bool) | ex (c : Nat) (x : D)
abbrev Os := List Bx
structure Z where
  env : List Ent
  os : Os
/-- an outcome -/
inductive R (σ α : Type) where
  | ok (a : α) (s : σ) | exc (c : Nat) (x : D) (s : σ) | stuck
def R.bind {σ α β : Type} (r : R σ α) (f : α → σ → R σ β) : R σ β := match r with
  | .ok a s => f a s
  | .exc c x s => .exc c x s
  | .stuck => .stuck
theorem R.bind_ok {σ α β : Type} {a : α} {s : σ} {f : α → σ → R σ β} : (R.ok a s).bind f = f a s := rfl
theorem R.bind_exc {σ α β : Type} {c : Nat} {x : D} {s : σ} {f : α → σ → R σ β} : (R.exc c x s : R σ α).bind f = .exc c x s := rfl
theorem R.bind_stuck {σ α β : Type} {f : α → σ → R σ β} : (R.stuck : R σ α).bind f = .stuck := rfl

def D.cell : D → Bool
  | .lst _ => true
  | .dct _ => true
  | _ => false

/-! ### the relations -/
def Sub (F G : Hp) : Prop := ∀ a o, F a = some o → G a = some o
theorem Sub.refl (F : Hp) : Sub F F := fun _ _ h => h
theorem Sub.trans {F G I : Hp} (h : Sub F G) (h' : Sub G I) : Sub F I := fun a o e => h' a o (h a o e)
theorem Sub.rd {F G : Hp} (h : Sub F G) {a : Addr} {o : HO} (r : Rd F a o) : Rd G a o := by
  rcases r with r | ⟨u, r⟩
  · exact .inl (h _ _ r)
  · exact .inr ⟨u, h _ _ r⟩
theorem Sub.sqL {F G : Hp} (h : Sub F G) {a : Addr} {xs : List V} (r : SqL K F a xs) : SqL K G a xs := by
  rcases r with r | r
  · exact .inl (h.rd r)
  · exact .inr r
theorem Sub.sqT {F G : Hp} (h : Sub F G) {a : Addr} {xs : List V} (r : SqT K F a xs) : SqT K G a xs := by
  rcases r with r | r
  · exact .inl (h.rd r)
  · exact .inr r
def Pre (al al' : List Addr) : Prop := ∃ r, al' = al ++ r
theorem Pre.refl (al : List Addr) : Pre al al := ⟨[], by simp⟩
theorem Pre.trans {a b c : List Addr} (h : Pre a b) (h' : Pre b c) : Pre a c := by
  obtain ⟨r, rfl⟩ := h; obtain ⟨q, rfl⟩ := h'; exact ⟨r ++ q, by simp⟩
theorem Pre.get {a b : List Addr} (h : Pre a b) {i : Nat} {x : Addr} (e : a[i]? = some x) : b[i]? = some x := by
  obtain ⟨r, rfl⟩ := h
  rw [List.getElem?_append_left (List.getElem?_eq_some_iff.mp e).1]; exact e
theorem Pre.mem {a b : List Addr} (h : Pre a b) {x : Addr} (e : x ∈ a) : x ∈ b := by
  obtain ⟨r, rfl⟩ := h; exact List.mem_append_left _ e

section mono
variable {F G : Hp} {al al' : List Addr}
mutual
theorem Rp.mono (h : Sub F G) (p : Pre al al') : ∀ (d : D) (v : V), Rp F al d v → Rp G al' d v
  | .non, v, r => by simpa [Rp] using r
  | .bl b, v, r => by simpa [Rp] using r
  | .int i, v, r => by simpa [Rp] using r
  | .str s, v, r => by simpa [Rp] using r
  | .tup ds, v, r => by
    simp only [Rp] at r ⊢
    obtain ⟨a, vs, e, q, t⟩ := r
    exact ⟨a, vs, e, h _ _ q, Rps.mono h p ds vs t⟩
  | .lst ds, v, r => by
    simp only [Rp] at r ⊢
    obtain ⟨a, vs, e, q, t⟩ := r
    exact ⟨a, vs, e, h.rd q, Rps.mono h p ds vs t⟩
  | .dct kvs, v, r => by
    simp only [Rp] at r ⊢
    obtain ⟨a, e, q⟩ := r
    refine ⟨a, e, ?_⟩
    rcases q with ⟨l, q, t⟩ | ⟨l, q, t⟩
    · exact .inl ⟨l, h _ _ q, Rkv.mono h p kvs l t⟩
    · exact .inr ⟨l, h _ _ q, Rkt.mono h p kvs l t⟩
  | .box i, v, r => by
    simp only [Rp] at r ⊢
    obtain ⟨a, q, e⟩ := r
    exact ⟨a, p.get q, e⟩
theorem Rps.mono (h : Sub F G) (p : Pre al al') : ∀ (ds : List D) (vs : List V), Rps F al ds vs → Rps G al' ds vs
  | [], vs, r => by simpa [Rps] using r
  | d :: ds, vs, r => by
    simp only [Rps] at r ⊢
    obtain ⟨v, q, e, r1, r2⟩ := r
    exact ⟨v, q, e, Rp.mono h p d v r1, Rps.mono h p ds q r2⟩
theorem Rkv.mono (h : Sub F G) (p : Pre al al') : ∀ (ds : List (D × D)) (vs : List (Key × V)), Rkv F al ds vs → Rkv G al' ds vs
  | [], vs, r => by simpa [Rkv] using r
  | (k, d) :: ds, vs, r => by
    simp only [Rkv] at r ⊢
    obtain ⟨kk, v, q, e, ek, r1, r2⟩ := r
    exact ⟨kk, v, q, e, ek, Rp.mono h p d v r1, Rkv.mono h p ds q r2⟩
theorem Rkt.mono (h : Sub F G) (p : Pre al al') : ∀ (ds : List (D × D)) (vs : List (List Key × V)), Rkt F al ds vs → Rkt G al' ds vs
  | [], vs, r => by simp [Rkt] at r
  | (k, d) :: ds, vs, r => by
    simp only [Rkt] at r ⊢
    obtain ⟨kk, v, q, e, ek, r1, r2⟩ := r
    refine ⟨kk, v, q, e, ek, Rp.mono h p d v r1, ?_⟩
    rcases r2 with r2 | r2
    · exact .inl r2
    · exact .inr (Rkt.mono h p ds q r2)
end
end mono

theorem Rps.length {F : Hp} {al : List Addr} : ∀ {ds : List D} {vs : List V}, Rps F al ds vs → vs.length = ds.length
  | [], vs, r => by simp only [Rps] at r; subst r; rfl
  | d :: ds, vs, r => by
    simp only [Rps] at r
    obtain ⟨v, q, e, _, r2⟩ := r
    subst e; simp [Rps.length r2]
theorem Rps.nil {F : Hp} {al : List Addr} : Rps F al [] [] := by simp [Rps]
theorem Rps.cons {F : Hp} {al : List Addr} {d : D} {ds : List D} {v : V} {vs : List V} (h : Rp F al d v) (t : Rps F al ds vs) : Rps F al (d :: ds) (v :: vs) := by
  simp only [Rps]; exact ⟨v, vs, rfl, h, t⟩
theorem Rps.append {F : Hp} {al : List Addr} : ∀ {ds es : List D} {vs ws : List V}, Rps F al ds vs → Rps F al es ws → Rps F al (ds ++ es) (vs ++ ws)
  | [], es, vs, ws, r, q => by simp only [Rps] at r; subst r; exact q
  | d :: ds, es, vs, ws, r, q => by
    simp only [Rps] at r
    obtain ⟨v, u, e, r1, r2⟩ := r
    subst e
    exact Rps.cons r1 (Rps.append r2 q)
theorem Rps.get {F : Hp} {al : List Addr} : ∀ {ds : List D} {vs : List V} {i : Nat} {d : D}, Rps F al ds vs → ds[i]? = some d → ∃ v, vs[i]? = some v ∧ Rp F al d v
  | [], _, _, _, _, e => by simp at e
  | d :: ds, vs, 0, x, r, e => by
    simp only [Rps] at r
    obtain ⟨v, u, q, r1, r2⟩ := r
    simp at e; subst e; subst q
    exact ⟨v, rfl, r1⟩
  | d :: ds, vs, i + 1, x, r, e => by
    simp only [Rps] at r
    obtain ⟨v, u, q, r1, r2⟩ := r
    subst q
    obtain ⟨w, h1, h2⟩ := Rps.get (i := i) r2 (by simpa using e)
    exact ⟨w, by simpa using h1, h2⟩
theorem Rps.take {F : Hp} {al : List Addr} : ∀ {ds : List D} {vs : List V} (n : Nat), Rps F al ds vs → Rps F al (ds.take n) (vs.take n)
  | _, _, 0, _ => by simp [Rps]
  | [], vs, n + 1, r => by simp only [Rps] at r; subst r; simp [Rps]
  | d :: ds, vs, n + 1, r => by
    simp only [Rps] at r
    obtain ⟨v, u, q, r1, r2⟩ := r
    subst q
    exact Rps.cons r1 (Rps.take n r2)
theorem Rps.drop {F : Hp} {al : List Addr} : ∀ {ds : List D} {vs : List V} (n : Nat), Rps F al ds vs → Rps F al (ds.drop n) (vs.drop n)
  | _, _, 0, r => r
  | [], vs, n + 1, r => by simp only [Rps] at r; subst r; simp [Rps]
  | d :: ds, vs, n + 1, r => by
    simp only [Rps] at r
    obtain ⟨v, u, q, r1, r2⟩ := r
    subst q
    exact Rps.drop n r2
theorem Rps.reverse {F : Hp} {al : List Addr} : ∀ {ds : List D} {vs : List V}, Rps F al ds vs → Rps F al ds.reverse vs.reverse
  | [], vs, r => by simp only [Rps] at r; subst r; simp [Rps]
  | d :: ds, vs, r => by
    simp only [Rps] at r
    obtain ⟨v, u, q, r1, r2⟩ := r
    subst q
    rw [List.reverse_cons, List.reverse_cons]
    exact Rps.append (Rps.reverse r2) (Rps.cons r1 Rps.nil)
theorem Rps.set {F : Hp} {al : List Addr} {d : D} {v : V} (h : Rp F al d v) : ∀ {ds : List D} {vs : List V} (n : Nat), Rps F al ds vs → Rps F al (ds.set n d) (vs.set n v)
  | [], vs, n, r => by simp only [Rps] at r; subst r; simp [Rps]
  | e :: ds, vs, 0, r => by
    simp only [Rps] at r
    obtain ⟨w, u, q, r1, r2⟩ := r
    subst q
    exact Rps.cons h r2
  | e :: ds, vs, n + 1, r => by
    simp only [Rps] at r
    obtain ⟨w, u, q, r1, r2⟩ := r
    subst q
    exact Rps.cons r1 (Rps.set h n r2)

/-- the fields of an instance -/
def Rfs (F : Hp) (al : List Addr) : List (Str × D) → List (Str × V) → Prop := Paired fun p q => p.1 = q.1 ∧ Rp F al p.2 q.2
theorem Paired.imp {α β : Type} {P Q : α → β → Prop} (h : ∀ a b, P a b → Q a b) : ∀ {xs : List α} {ys : List β}, Paired P xs ys → Paired Q xs ys
  | _, _, .nil => .nil
  | _, _, .cons a t => .cons (h _ _ a) (Paired.imp h t)

/-- what stands at a, as a list or dict whose items are of F -/
def Cel (F : Hp) (al : List Addr) (H : Hp) (a : Addr) : D → Prop
  | .lst ds => ∃ vs, H a = some (.lst vs) ∧ Rps F al ds vs
  | .dct kvs => (∃ l, H a = some (.dK l) ∧ Rkv F al kvs l) ∨ (∃ l, H a = some (.dT l) ∧ Rkt F al kvs l)
  | _ => False
theorem Cel.mono {F G : Hp} {al al' : List Addr} {H H' : Hp} {a : Addr} {d : D} (h : Sub F G) (p : Pre al al') (e : ∀ o, H a = some o → H' a = some o) (c : Cel F al H a d) : Cel G al' H' a d := by
  cases d with
  | lst ds => obtain ⟨vs, q, r⟩ := c; exact ⟨vs, e _ q, Rps.mono h p _ _ r⟩
  | dct kvs =>
    rcases c with ⟨l, q, r⟩ | ⟨l, q, r⟩
    · exact .inl ⟨l, e _ q, Rkv.mono h p _ _ r⟩
    · exact .inr ⟨l, e _ q, Rkt.mono h p _ _ r⟩
  | _ => exact c.elim
theorem Cel.there {F : Hp} {al : List Addr} {H : Hp} {a : Addr} {d : D} (c : Cel F al H a d) : ∃ o, H a = some o := by
  cases d with
  | lst ds => obtain ⟨vs, q, r⟩ := c; exact ⟨_, q⟩
  | dct kvs =>
    rcases c with ⟨l, q, r⟩ | ⟨l, q, r⟩
    · exact ⟨_, q⟩
    · exact ⟨_, q⟩
  | _ => exact c.elim
theorem Cel.rp {F G : Hp} {al : List Addr} {H : Hp} {a : Addr} {d : D} (h : Sub F G) (e : ∀ o, H a = some o → G a = some o) (c : Cel F al H a d) : Rp G al d (.ref a) := by
  cases d with
  | lst ds =>
    obtain ⟨vs, q, r⟩ := c
    simp only [Rp]
    exact ⟨a, vs, rfl, .inl (e _ q), Rps.mono h (.refl _) _ _ r⟩
  | dct kvs =>
    simp only [Rp]
    refine ⟨a, rfl, ?_⟩
    rcases c with ⟨l, q, r⟩ | ⟨l, q, r⟩
    · exact .inl ⟨l, e _ q, Rkv.mono h (.refl _) _ _ r⟩
    · exact .inr ⟨l, e _ q, Rkt.mono h (.refl _) _ _ r⟩
  | _ => exact c.elim

/-- the written part and where the classes stand -/
structure Wd where
  cad : Nat → Addr
  m : Nat

def BxRel (cad : Nat → Addr) (F : Hp) (al : List Addr) (H : Hp) (x : Bx) (a : Addr) : Prop := match x with
  | .lst ds => ∃ vs, H a = some (.lst vs) ∧ Rps F al ds vs
  | .dct kvs => (∃ l, H a = some (.dK l) ∧ Rkv F al kvs l) ∨ (∃ l, H a = some (.dT l) ∧ Rkt F al kvs l)
  | .ins c fs => ∃ dx fv, H a = some (.ins (cad c) dx fv) ∧ Rfs F al fs fv
theorem BxRel.mono {cad : Nat → Addr} {F G : Hp} {al al' : List Addr} {H H' : Hp} {x : Bx} {a : Addr} (h : Sub F G) (p : Pre al al') (e : ∀ o, H a = some o → H' a = some o) (c : BxRel cad F al H x a) : BxRel cad G al' H' x a := by
  cases x with
  | lst ds => obtain ⟨vs, q, r⟩ := c; exact ⟨vs, e _ q, Rps.mono h p _ _ r⟩
  | dct kvs =>
    rcases c with ⟨l, q, r⟩ | ⟨l, q, r⟩
    · exact .inl ⟨l, e _ q, Rkv.mono h p _ _ r⟩
    · exact .inr ⟨l, e _ q, Rkt.mono h p _ _ r⟩
  | ins c fs => obtain ⟨dx, fv, q, r⟩ := c; exact ⟨dx, fv, e _ q, Paired.imp (fun a b z => ⟨z.1, Rp.mono h p _ _ z.2⟩) r⟩
theorem BxRel.there {cad : Nat → Addr} {F : Hp} {al : List Addr} {H : Hp} {x : Bx} {a : Addr} (c : BxRel cad F al H x a) : ∃ o, H a = some o ∧ Mut (some o) := by
  cases x with
  | lst ds => obtain ⟨vs, q, r⟩ := c; exact ⟨_, q, trivial⟩
  | dct kvs =>
    rcases c with ⟨l, q, r⟩ | ⟨l, q, r⟩
    · exact ⟨_, q, trivial⟩
    · exact ⟨_, q, trivial⟩
  | ins c fs => obtain ⟨dx, fv, q, r⟩ := c; exact ⟨_, q, trivial⟩

/-- the ghost: what is frozen, where the boxes stand -/
structure Gh where
  F : Hp
  al : List Addr
/-- the ghost and the heap at the def's entry -/
structure Bs where
  F : Hp
  al : List Addr
  H : Hp
  rs : List Addr   -- lists in the making (of comprehensions): nobody else's

def Ent.owns : Ent → Bool
  | .val d fr => fr && d.cell
  | _ => false

/-- a value of its own at a: not frozen, in no box, not there at the entry -/
structure Own (w : Wd) (b : Bs) (g : Gh) (H : Hp) (d : D) (a : Addr) : Prop where
  nF : g.F a = none
  nB : a ∉ g.al
  nH : b.H a = none
  nR : a ∉ b.rs
  cl : Cel g.F g.al H a d
def ValRel (w : Wd) (b : Bs) (g : Gh) (H : Hp) (d : D) (fr : Bool) (v : V) : Prop :=
  if (fr && d.cell) = true then ∃ a, v = .ref a ∧ Own w b g H d a else Rp g.F g.al d v
def EntRel (w : Wd) (b : Bs) (g : Gh) (H : Hp) (xr : Nat → D → V → Prop) (e : Ent) (o : Option (Option V)) : Prop := match e with
  | .no => True
  | .val d fr => ∃ v, o = some (some v) ∧ ValRel w b g H d fr v
  | .ex c x => ∃ v, o = some (some v) ∧ xr c x v

/-- a slot's address -/
def sad (σ : St) (i : Nat) : Option Addr := match σ[i]? with
  | some (some (.ref a)) => some a
  | _ => none

structure Sim (w : Wd) (xr : Nat → D → V → Prop) (b : Bs) (g : Gh) (z : Z) (σ : St) (H : Hp) : Prop where
  sub : Sub g.F H
  new : ∀ a, g.F a ≠ none → b.F a ≠ none ∨ b.H a = none
  kept : ∀ a o, b.H a = some o → a ∉ b.al → H a = some o
  pF : Sub b.F g.F
  pre : Pre b.al g.al
  alnew : ∀ a ∈ g.al, a ∈ b.al ∨ b.H a = none
  alF : ∀ a ∈ g.al, g.F a = none
  nd : g.al.Nodup
  box : Paired (BxRel w.cad g.F g.al H) z.os g.al
  len : z.env.length = σ.length
  ln : σ.length = w.m
  ent : ∀ (i : Nat) (e : Ent), z.env[i]? = some e → EntRel w b g H xr e σ[i]?
  dis : ∀ (i j : Nat) (e e' : Ent), i ≠ j → z.env[i]? = some e → z.env[j]? = some e' → e.owns = true → e'.owns = true → sad σ i ≠ sad σ j
  rs : ∀ a ∈ b.rs, g.F a = none ∧ a ∉ g.al ∧ ∃ o, H a = some o

/-- one step of an expression, for who stands at (g, H) -/
structure Stp (g : Gh) (H : Hp) (g' : Gh) (H' : Hp) : Prop where
  F : Sub g.F g'.F
  al : Pre g.al g'.al
  alnew : ∀ a ∈ g'.al, a ∈ g.al ∨ H a = none
  keep : ∀ a o, H a = some o → a ∉ g.al → H' a = some o
theorem Stp.refl (g : Gh) (H : Hp) : Stp g H g H := ⟨.refl _, .refl _, fun a h => .inl h, fun a o h _ => h⟩
theorem Stp.trans {g g1 g2 : Gh} {H H1 H2 : Hp} (s : Stp g H g1 H1) (t : Stp g1 H1 g2 H2) : Stp g H g2 H2 where
  F := s.F.trans t.F
  al := s.al.trans t.al
  alnew := fun a h => by
    rcases t.alnew a h with q | q
    · exact s.alnew a q
    · by_cases ha : a ∈ g.al
      · exact .inl ha
      · refine .inr ?_
        cases e : H a with
        | none => rfl
        | some o => rw [s.keep a o e ha] at q; cases q
  keep := fun a o h n => t.keep a o (s.keep a o h n) fun q => by
    rcases s.alnew a q with z | z
    · exact n z
    · rw [h] at z; cases z

section
variable {w : Wd} {xr : Nat → D → V → Prop} {b : Bs} {g : Gh} {z : Z} {σ : St} {H : Hp}

theorem Paired.get_left {α β : Type} {P : α → β → Prop} : ∀ {xs : List α} {ys : List β} {i : Nat} {x : α}, Paired P xs ys → xs[i]? = some x → ∃ y, ys[i]? = some y ∧ P x y
  | _, _, _, _, .nil, e => by simp at e
  | _, _, 0, _, .cons a t, e => by simp at e; subst e; exact ⟨_, rfl, a⟩
  | _, _, i + 1, _, .cons a t, e => by
    obtain ⟨y, h1, h2⟩ := Paired.get_left (i := i) t (by simpa using e)
    exact ⟨y, by simpa using h1, h2⟩
theorem Paired.get_right {α β : Type} {P : α → β → Prop} : ∀ {xs : List α} {ys : List β} {i : Nat} {y : β}, Paired P xs ys → ys[i]? = some y → ∃ x, xs[i]? = some x ∧ P x y
  | _, _, _, _, .nil, e => by simp at e
  | _, _, 0, _, .cons a t, e => by simp at e; subst e; exact ⟨_, rfl, a⟩
  | _, _, i + 1, _, .cons a t, e => by
    obtain ⟨y, h1, h2⟩ := Paired.get_right (i := i) t (by simpa using e)
    exact ⟨y, by simpa using h1, h2⟩
theorem Paired.app {α β : Type} {P : α → β → Prop} : ∀ {xs xs' : List α} {ys ys' : List β}, Paired P xs ys → Paired P xs' ys' → Paired P (xs ++ xs') (ys ++ ys')
  | _, _, _, _, .nil, t => t
  | _, _, _, _, .cons a r, t => .cons a (Paired.app r t)
theorem Paired.setB {α β : Type} {P P' : α → β → Prop} {x : α} : ∀ {xs : List α} {ys : List β} {i : Nat} {y : β}, Paired P xs ys → ys[i]? = some y → ys.Nodup → P' x y → (∀ a b, b ≠ y → P a b → P' a b) → Paired P' (xs.set i x) ys
  | _, _, _, _, .nil, e, _, _, _ => by simp at e
  | _, _, 0, y, .cons a t, e, nd, h, k => by
    simp at e; subst e
    refine .cons h ?_
    have hn := (List.nodup_cons.mp nd).1
    exact Paired.impM t fun a b hb p => k a b (fun q => hn (q ▸ hb)) p
  | _, _, i + 1, y, .cons a t, e, nd, h, k => by
    have e' := e
    rw [List.getElem?_cons_succ] at e'
    have hn := (List.nodup_cons.mp nd).1
    refine .cons (k _ _ (fun q => hn ?_) a) (Paired.setB t e' (List.nodup_cons.mp nd).2 h k)
    rw [q]; exact List.mem_of_getElem? e'
where
  Paired.impM {α β : Type} {P Q : α → β → Prop} : ∀ {xs : List α} {ys : List β}, Paired P xs ys → (∀ a b, b ∈ ys → P a b → Q a b) → Paired Q xs ys
  | _, _, .nil, _ => .nil
  | _, _, .cons a t, h => .cons (h _ _ (by simp) a) (Paired.impM t fun a b hb p => h a b (List.mem_cons_of_mem _ hb) p)

theorem Sim.boxAt (S : Sim w xr b g z σ H) {i : Nat} {x : Bx} (e : z.os[i]? = some x) : ∃ a, g.al[i]? = some a ∧ BxRel w.cad g.F g.al H x a := Paired.get_left S.box e
theorem Sim.boxIn (S : Sim w xr b g z σ H) {a : Addr} (h : a ∈ g.al) : ∃ x, BxRel w.cad g.F g.al H x a := by
  obtain ⟨i, hi⟩ := List.getElem?_of_mem h
  obtain ⟨x, _, q⟩ := Paired.get_right S.box hi
  exact ⟨x, q⟩
theorem Sim.boxSome (S : Sim w xr b g z σ H) {a : Addr} (h : a ∈ g.al) : ∃ o, H a = some o := by
  obtain ⟨x, q⟩ := S.boxIn h
  obtain ⟨o, e, _⟩ := q.there
  exact ⟨o, e⟩
theorem Sim.freshF (S : Sim w xr b g z σ H) {p : Addr} (h : H p = none) : g.F p = none := by
  cases e : g.F p with
  | none => rfl
  | some o => rw [S.sub p o e] at h; cases h
theorem Sim.freshB (S : Sim w xr b g z σ H) {p : Addr} (h : H p = none) : p ∉ g.al := fun q => by
  obtain ⟨o, e⟩ := S.boxSome q
  rw [e] at h; cases h
theorem Sim.freshH (S : Sim w xr b g z σ H) {p : Addr} (h : H p = none) : b.H p = none := by
  cases e : b.H p with
  | none => rfl
  | some o =>
    by_cases hp : p ∈ b.al
    · exact absurd (S.pre.mem hp) (S.freshB h)
    · rw [S.kept p o e hp] at h; cases h

theorem Sim.freshR (S : Sim w xr b g z σ H) {p : Addr} (h : H p = none) : p ∉ b.rs := fun q => by
  obtain ⟨_, _, o, e⟩ := S.rs p q
  rw [e] at h; cases h

theorem Own.mono {g' : Gh} {H' : Hp} {d : D} {a : Addr} (o : Own w b g H d a) (s : Stp g H g' H') (nF : g'.F a = none) : Own w b g' H' d a := by
  obtain ⟨oo, e⟩ := o.cl.there
  refine ⟨nF, fun q => ?_, o.nH, o.nR, o.cl.mono s.F s.al fun u q => s.keep a u q o.nB⟩
  rcases s.alnew a q with z | z
  · exact o.nB z
  · rw [e] at z; cases z

/-- a new object is laid -/
theorem Stp.alloc {p : Addr} {o : HO} (h : H p = none) : Stp g H g (upd H p o) :=
  ⟨.refl _, .refl _, fun a h => .inl h, fun a u e _ => by rw [upd_ne (ne_of_none e h)]; exact e⟩
theorem Sim.alloc (S : Sim w xr b g z σ H) {p : Addr} {o : HO} (h : H p = none) : Sim w xr b g z σ (upd H p o) := by
  have k : ∀ a u, H a = some u → upd H p o a = some u := fun a u e => by rw [upd_ne (ne_of_none e h)]; exact e
  refine ⟨fun a u e => k a u (S.sub a u e), S.new, fun a u e n => k a u (S.kept a u e n), S.pF, S.pre, S.alnew, S.alF, S.nd, Paired.imp (fun x a q => q.mono (.refl _) (.refl _) (k a)) S.box, S.len, S.ln, fun i e he => ?_, S.dis, fun a ha => let ⟨h1, h2, o, h3⟩ := S.rs a ha; ⟨h1, h2, o, k a o h3⟩⟩
  have q := S.ent i e he
  cases e with
  | no => trivial
  | ex c x => exact q
  | val d fr =>
    obtain ⟨v, e1, e2⟩ := q
    refine ⟨v, e1, ?_⟩
    unfold ValRel at e2 ⊢
    split
    · rename_i hc
      rw [if_pos hc] at e2
      obtain ⟨a, ea, ow⟩ := e2
      exact ⟨a, ea, ow.mono (Stp.alloc h) ow.nF⟩
    · rename_i hc
      rw [if_neg hc] at e2
      exact e2
end
end Vi

namespace Vi
open PySem L2

section
variable {w : Wd} {xr : Nat → D → V → Prop} {b : Bs} {g : Gh} {z : Z} {σ : St} {H : Hp}

/-- no local owns a -/
def Off (z : Z) (σ : St) (a : Addr) : Prop := ∀ (i : Nat) (e : Ent), z.env[i]? = some e → e.owns = true → sad σ i ≠ some a

theorem EntRel.mono {g' : Gh} {H' : Hp} {e : Ent} {o : Option (Option V)} (q : EntRel w b g H xr e o) (s : Stp g H g' H') (n : ∀ a v, o = some (some v) → e.owns = true → v = .ref a → g'.F a = none) : EntRel w b g' H' xr e o := by
  cases e with
  | no => trivial
  | ex c x => exact q
  | val d fr =>
    obtain ⟨v, e1, e2⟩ := q
    refine ⟨v, e1, ?_⟩
    unfold ValRel at e2 ⊢
    split
    · rename_i hc
      rw [if_pos hc] at e2
      obtain ⟨a, ea, ow⟩ := e2
      exact ⟨a, ea, ow.mono s (n a v e1 hc ea)⟩
    · rename_i hc
      rw [if_neg hc] at e2
      exact Rp.mono s.F s.al _ _ e2
theorem Sim.ownAt (S : Sim w xr b g z σ H) {i : Nat} {d : D} {fr : Bool} (e : z.env[i]? = some (.val d fr)) (h : (fr && d.cell) = true) : ∃ a, σ[i]? = some (some (.ref a)) ∧ sad σ i = some a ∧ Own w b g H d a := by
  obtain ⟨v, e1, e2⟩ := S.ent i _ e
  unfold ValRel at e2
  rw [if_pos h] at e2
  obtain ⟨a, ea, ow⟩ := e2
  subst ea
  refine ⟨a, e1, ?_, ow⟩
  unfold sad; rw [e1]

def Hp.add (F H : Hp) (a : Addr) : Hp := fun c => if c = a then H a else F c
/-- a list or dict at a is frozen -/
theorem freeze_stp {a : Addr} (nF : g.F a = none) : Stp g H ⟨Hp.add g.F H a, g.al⟩ H where
  F := fun c o e => by
    show (if c = a then H a else g.F c) = some o
    rw [if_neg (fun q => by subst q; rw [nF] at e; cases e)]; exact e
  al := .refl _
  alnew := fun c h => .inl h
  keep := fun c o h _ => h
theorem Sim.freeze (S : Sim w xr b g z σ H) {d : D} {a : Addr} {env' : List Ent} (ow : Own w b g H d a) (hl : env'.length = z.env.length)
    (he : ∀ (i : Nat) (e : Ent), env'[i]? = some e → z.env[i]? = some e ∧ (e.owns = true → sad σ i ≠ some a) ∨ ∃ d', e = .val d' false ∧ sad σ i = some a ∧ d' = d) :
    Sim w xr b ⟨Hp.add g.F H a, g.al⟩ ⟨env', z.os⟩ σ H ∧ Rp (Hp.add g.F H a) g.al d (.ref a) := by
  have st : Stp g H ⟨Hp.add g.F H a, g.al⟩ H := freeze_stp ow.nF
  have hrp : Rp (Hp.add g.F H a) g.al d (.ref a) := ow.cl.rp (G := Hp.add g.F H a) st.F fun o e => by
    show (if a = a then H a else g.F a) = some o
    rw [if_pos rfl]; exact e
  refine ⟨⟨fun c o e => ?_, fun c hc => ?_, S.kept, S.pF.trans st.F, S.pre, S.alnew, fun c hc => ?_, S.nd, Paired.imp (fun x c q => q.mono st.F (.refl _) fun _ q => q) S.box, hl.trans S.len, S.ln, fun i e e1 => ?_, fun i j e e' hij e1 e2 o1 o2 => ?_, fun c hc => ?_⟩, hrp⟩
  · by_cases h : c = a
    · subst h
      have e' : (if c = c then H c else g.F c) = some o := e
      rw [if_pos rfl] at e'; exact e'
    · have e' : (if c = a then H a else g.F c) = some o := e
      rw [if_neg h] at e'; exact S.sub c o e'
  · by_cases h : c = a
    · subst h; exact .inr ow.nH
    · have e' : (if c = a then H a else g.F c) ≠ none := hc
      rw [if_neg h] at e'; exact S.new c e'
  · have h : c ≠ a := fun q => ow.nB (q ▸ hc)
    show (if c = a then H a else g.F c) = none
    rw [if_neg h]; exact S.alF c hc
  · rcases he i e e1 with ⟨q, n⟩ | ⟨d', rfl, q, rfl⟩
    · refine (S.ent i e q).mono st fun c v e3 o1 ev => ?_
      have h : c ≠ a := fun z1 => n o1 (by unfold sad; rw [e3, ev, z1])
      show (if c = a then H a else g.F c) = none
      rw [if_neg h]
      have := S.ent i e q
      cases e with
      | no => cases o1
      | ex c x => cases o1
      | val d2 fr2 =>
        obtain ⟨a2, h1, h2, h3⟩ := S.ownAt q o1
        rw [h1] at e3; cases e3; cases ev
        exact h3.nF
    · have : σ[i]? = some (some (.ref a)) := by
        unfold sad at q
        split at q
        · rename_i a2 h2; cases q; exact h2
        · cases q
      refine ⟨.ref a, this, ?_⟩
      unfold ValRel
      rw [if_neg (by simp)]
      exact hrp
  · have a1 : z.env[i]? = some e := by
      rcases he i e e1 with ⟨q, n⟩ | ⟨d', rfl, q⟩
      · exact q
      · cases o1
    have a2 : z.env[j]? = some e' := by
      rcases he j e' e2 with ⟨q, n⟩ | ⟨d', rfl, q⟩
      · exact q
      · cases o2
    exact S.dis i j e e' hij a1 a2 o1 o2
  · obtain ⟨h1, h2, h3⟩ := S.rs c hc
    refine ⟨?_, h2, h3⟩
    show (if c = a then H a else g.F c) = none
    rw [if_neg (fun q : c = a => ow.nR (by rw [← q]; exact hc))]
    exact h1

/-- what an expression gives: of its own, or frozen; H0 the heap ahead of it -/
def Tmp (w : Wd) (b : Bs) (g : Gh) (z : Z) (σ : St) (H0 H : Hp) (d : D) (fr : Bool) (v : V) : Prop :=
  if (fr && d.cell) = true then ∃ a, v = .ref a ∧ Own w b g H d a ∧ Off z σ a ∧ H0 a = none else Rp g.F g.al d v
theorem Tmp.frozen {H0 : Hp} {d : D} {v : V} (h : Rp g.F g.al d v) : Tmp w b g z σ H0 H d false v := by
  unfold Tmp; rw [if_neg (by simp)]; exact h
theorem Tmp.flat {H0 : Hp} {d : D} {fr : Bool} {v : V} (hc : d.cell = false) (h : Rp g.F g.al d v) : Tmp w b g z σ H0 H d fr v := by
  unfold Tmp; rw [hc]; rw [if_neg (by simp)]; exact h
theorem Tmp.rp {H0 : Hp} {d : D} {v : V} (h : Tmp w b g z σ H0 H d false v) : Rp g.F g.al d v := by
  unfold Tmp at h; rw [if_neg (by simp)] at h; exact h
theorem Tmp.weak {H0 H1 : Hp} {d : D} {fr : Bool} {v : V} (h : Tmp w b g z σ H1 H d fr v) (k : ∀ a, H1 a = none → H0 a = none) : Tmp w b g z σ H0 H d fr v := by
  unfold Tmp at h ⊢
  split
  · rename_i hc; rw [if_pos hc] at h
    obtain ⟨a, e, o, f, n⟩ := h
    exact ⟨a, e, o, f, k a n⟩
  · rename_i hc; rw [if_neg hc] at h; exact h
theorem off_self (z : Z) (σ : St) {a : Addr} (h : Off z σ a) : ∀ (i : Nat) (e : Ent), z.env[i]? = some e → z.env[i]? = some e ∧ (e.owns = true → sad σ i ≠ some a) ∨ ∃ d', e = .val d' false ∧ sad σ i = some a ∧ d' = D.non :=
  fun i e q => .inl ⟨q, h i e q⟩
/-- a value that is not kept as one's own -/
theorem Tmp.freeze {H0 : Hp} {d : D} {fr : Bool} {v : V} (S : Sim w xr b g z σ H) (h : Tmp w b g z σ H0 H d fr v) : ∃ g', Stp g H g' H ∧ Sim w xr b g' z σ H ∧ Rp g'.F g'.al d v := by
  unfold Tmp at h
  split at h
  · obtain ⟨a, rfl, ow, f, n⟩ := h
    obtain ⟨S', r⟩ := S.freeze (env' := z.env) ow rfl fun i e q => .inl ⟨q, f i e q⟩
    exact ⟨_, freeze_stp ow.nF, S', r⟩
  · exact ⟨g, .refl _ _, S, h⟩
theorem Stp.none_of {g' : Gh} {H' : Hp} (S : Sim w xr b g z σ H) (s : Stp g H g' H') : ∀ a, H' a = none → a ∉ g.al → H a = none := fun a h n => by
  cases e : H a with
  | none => rfl
  | some o => rw [s.keep a o e n] at h; cases h
theorem Stp.fresh {g' : Gh} {H' : Hp} {z' : Z} {σ' : St} (S : Sim w xr b g' z' σ' H') (s : Stp g H g' H') : ∀ a, H' a = none → H a = none := fun a h => by
  cases e : H a with
  | none => rfl
  | some o =>
    by_cases n : a ∈ g.al
    · exact absurd (s.al.mem n) (S.freshB h)
    · rw [s.keep a o e n] at h; cases h

/-! ### what is wanted of an outcome -/
/-- a raised exception -/
def XR (cad : Nat → Addr) (g : Gh) (c : Nat) (x : D) (cls : Value) (dd : Option Addr) (H : Hp) : Prop :=
  cls = .ref (cad c) ∧ ((dd = none ∧ x = .non) ∨ ∃ d v, dd = some d ∧ H d = some (.xd [("place", v)]) ∧ x.cell = false ∧ Rp g.F g.al x v)
def PostE (w : Wd) (xr : Nat → D → V → Prop) (W : WX) (b : Bs) (g : Gh) (σ : St) (H : Hp) (Q : VK) : R Z (D × Bool) → Prop
  | .ok a z' => ∀ g' v H', Stp g H g' H' → Sim w xr b g' z' σ H' → Tmp w b g' z' σ H H' a.1 a.2 v → Q v H'
  | .exc c x z' => ∀ g' cls dd H', Stp g H g' H' → Sim w xr b g' z' σ H' → XR w.cad g' c x cls dd H' → W cls dd σ H'
  | .stuck => False
/-- the same of a frozen value -/
def PostF (w : Wd) (xr : Nat → D → V → Prop) (W : WX) (b : Bs) (g : Gh) (σ : St) (H : Hp) (Q : VK) : R Z D → Prop
  | .ok d z' => ∀ g' v H', Stp g H g' H' → Sim w xr b g' z' σ H' → Rp g'.F g'.al d v → Q v H'
  | .exc c x z' => ∀ g' cls dd H', Stp g H g' H' → Sim w xr b g' z' σ H' → XR w.cad g' c x cls dd H' → W cls dd σ H'
  | .stuck => False
/-- the same of a value that is only read: its own cell may be anyone's, its items are frozen -/
def unbox (al : List Addr) (H : Hp) : Hp := fun a => if a ∈ al then none else H a
theorem unbox_of {al : List Addr} {a : Addr} {o : HO} (n : a ∉ al) (h : H a = some o) : unbox al H a = some o := by
  unfold unbox; rw [if_neg n]; exact h
theorem unbox_sub {al : List Addr} : Sub (unbox al H) H := fun a o e => by
  unfold unbox at e
  split at e
  · cases e
  · exact e
theorem of_unbox {al : List Addr} {a : Addr} {o : HO} (h : unbox al H a = some o) : a ∉ al ∧ H a = some o := by
  unfold unbox at h
  split at h
  · cases h
  · exact ⟨by assumption, h⟩
theorem Sim.subU (S : Sim w xr b g z σ H) : Sub g.F (unbox g.al H) := fun a o e => unbox_of (fun q => by rw [S.alF a q] at e; cases e) (S.sub a o e)
theorem Stp.unbox {g' : Gh} {H' : Hp} (s : Stp g H g' H') : Sub (Vi.unbox g.al H) (Vi.unbox g'.al H') := fun a o e => by
  obtain ⟨n, q⟩ := of_unbox e
  refine unbox_of (fun z => ?_) (s.keep a o q n)
  rcases s.alnew a z with z | z
  · exact n z
  · rw [q] at z; cases z
def Rb (w : Wd) (g : Gh) (H : Hp) (d : D) (v : V) : Prop := match d with
  | .lst ds => ∃ a vs, v = .ref a ∧ Rd (unbox g.al H) a (.lst vs) ∧ Rps g.F g.al ds vs
  | .dct kvs => ∃ a, v = .ref a ∧ ((∃ l, unbox g.al H a = some (.dK l) ∧ Rkv g.F g.al kvs l) ∨ (∃ l, unbox g.al H a = some (.dT l) ∧ Rkt g.F g.al kvs l))
  | d => Rp g.F g.al d v
theorem Rb.of (S : Sim w xr b g z σ H) {d : D} {v : V} (h : Rp g.F g.al d v) : Rb w g H d v := by
  cases d with
  | lst ds =>
    simp only [Rp] at h
    obtain ⟨a, vs, e, q, r⟩ := h
    exact ⟨a, vs, e, S.subU.rd q, r⟩
  | dct kvs =>
    simp only [Rp] at h
    obtain ⟨a, e, q⟩ := h
    refine ⟨a, e, ?_⟩
    rcases q with ⟨l, q, r⟩ | ⟨l, q, r⟩
    · exact .inl ⟨l, S.subU _ _ q, r⟩
    · exact .inr ⟨l, S.subU _ _ q, r⟩
  | _ => exact h
theorem Rb.own {d : D} {a : Addr} (o : Own w b g H d a) : Rb w g H d (.ref a) := by
  have c := o.cl
  cases d with
  | lst ds =>
    obtain ⟨vs, q, r⟩ := c
    exact ⟨a, vs, rfl, .inl (unbox_of o.nB q), r⟩
  | dct kvs =>
    refine ⟨a, rfl, ?_⟩
    rcases c with ⟨l, q, r⟩ | ⟨l, q, r⟩
    · exact .inl ⟨l, unbox_of o.nB q, r⟩
    · exact .inr ⟨l, unbox_of o.nB q, r⟩
  | _ => exact c.elim
theorem Rb.tmp (S : Sim w xr b g z σ H) {H0 : Hp} {d : D} {fr : Bool} {v : V} (h : Tmp w b g z σ H0 H d fr v) : Rb w g H d v := by
  unfold Tmp at h
  split at h
  · obtain ⟨a, rfl, ow, _⟩ := h
    exact Rb.own ow
  · exact Rb.of S h
theorem Rb.mono {g' : Gh} {H' : Hp} {d : D} {v : V} (s : Stp g H g' H') (h : Rb w g H d v) : Rb w g' H' d v := by
  cases d with
  | lst ds =>
    obtain ⟨a, vs, e, q, r⟩ := h
    exact ⟨a, vs, e, s.unbox.rd q, Rps.mono s.F s.al _ _ r⟩
  | dct kvs =>
    obtain ⟨a, e, q⟩ := h
    refine ⟨a, e, ?_⟩
    rcases q with ⟨l, q, r⟩ | ⟨l, q, r⟩
    · exact .inl ⟨l, s.unbox _ _ q, Rkv.mono s.F s.al _ _ r⟩
    · exact .inr ⟨l, s.unbox _ _ q, Rkt.mono s.F s.al _ _ r⟩
  | _ => exact Rp.mono s.F s.al _ _ h
def PostB (w : Wd) (xr : Nat → D → V → Prop) (W : WX) (b : Bs) (g : Gh) (σ : St) (H : Hp) (Q : VK) : R Z D → Prop
  | .ok d z' => ∀ g' v H', Stp g H g' H' → Sim w xr b g' z' σ H' → Rb w g' H' d v → Q v H'
  | .exc c x z' => ∀ g' cls dd H', Stp g H g' H' → Sim w xr b g' z' σ H' → XR w.cad g' c x cls dd H' → W cls dd σ H'
  | .stuck => False
end

/-- e does what f says -/
def SndE (w : Wd) (xr : Nat → D → V → Prop) (X : Cx) (W : WX) (e : Expr) (f : Z → R Z (D × Bool)) : Prop :=
  ∃ t, PE X e t ∧ ∀ b g z σ H Q, Sim w xr b g z σ H → PostE w xr W b g σ H Q (f z) → t σ H Q
def SndF (w : Wd) (xr : Nat → D → V → Prop) (X : Cx) (W : WX) (e : Expr) (f : Z → R Z D) : Prop :=
  ∃ t, PE X e t ∧ ∀ b g z σ H Q, Sim w xr b g z σ H → PostF w xr W b g σ H Q (f z) → t σ H Q
def SndB (w : Wd) (xr : Nat → D → V → Prop) (X : Cx) (W : WX) (e : Expr) (f : Z → R Z D) : Prop :=
  ∃ t, PE X e t ∧ ∀ b g z σ H Q, Sim w xr b g z σ H → PostB w xr W b g σ H Q (f z) → t σ H Q
def fst1 (r : R Z (D × Bool)) : R Z D := r.bind fun a z => .ok a.1 z
section
variable {w : Wd} {xr : Nat → D → V → Prop} {X : Cx} {W : WX} {e : Expr} {f : Z → R Z (D × Bool)}
theorem SndE.F (h : SndE w xr X W e f) : SndF w xr X W e fun z => fst1 (f z) := by
  obtain ⟨t, p, q⟩ := h
  refine ⟨t, p, fun b g z σ H Q S k => q b g z σ H Q S ?_⟩
  simp only [fst1] at k
  cases r : f z with
  | ok a z' =>
    rw [r] at k
    intro g' v H' st S' tm
    obtain ⟨g2, st2, S2, rp⟩ := tm.freeze S'
    exact k g2 v H' (st.trans st2) S2 rp
  | exc c x z' => rw [r] at k; exact k
  | stuck => rw [r] at k; exact k
theorem SndE.B (h : SndE w xr X W e f) : SndB w xr X W e fun z => fst1 (f z) := by
  obtain ⟨t, p, q⟩ := h
  refine ⟨t, p, fun b g z σ H Q S k => q b g z σ H Q S ?_⟩
  simp only [fst1] at k
  cases r : f z with
  | ok a z' =>
    rw [r] at k
    intro g' v H' st S' tm
    exact k g' v H' st S' (Rb.tmp S' tm)
  | exc c x z' => rw [r] at k; exact k
  | stuck => rw [r] at k; exact k
theorem SndF.B {f : Z → R Z D} (h : SndF w xr X W e f) : SndB w xr X W e f := by
  obtain ⟨t, p, q⟩ := h
  refine ⟨t, p, fun b g z σ H Q S k => q b g z σ H Q S ?_⟩
  cases r : f z with
  | ok a z' =>
    rw [r] at k
    intro g' v H' st S' tm
    exact k g' v H' st S' (Rb.of S' tm)
  | exc c x z' => rw [r] at k; exact k
  | stuck => rw [r] at k; exact k
end
end Vi

namespace Vi
open PySem L2

/-! ### the small language -/
inductive Bop where
  | add | sub | mul | fdiv | mod | pow
deriving DecidableEq
inductive Cop where
  | eq | ne | lt | le | gt | ge | isin | notin | is | isnot
deriving DecidableEq
inductive Fn where
  | len | abs | int | str | list | tuple | sorted | sum | min | max | set | dict
deriving DecidableEq
/-- what isinstance asks for -/
inductive Ty where
  | int | bool | str | list | tuple | own (c : Nat) | verr
deriving DecidableEq
inductive ItK where
  | val | range | enum | zip | rev
deriving DecidableEq
/-- methods of texts, lists and dicts that change nothing -/
inductive Mt where
  | join | find | split | index
deriving DecidableEq
inductive Tg where
  | nm (i : Nat) | tp (ts : List Tg)
inductive E where
  | c (d : D) | v (i : Nat) | b (i : Nat)
  | tup (es : List E) | lst (es : List E) | dct (ks vs : List E)
  | box (e : E)
  | bin (o : Bop) (a b : E) | neg (a : E) | not (a : E)
  | cmp (o : Cop) (a b : E) | chain (o o' : Cop) (a b c : E)
  | and (a b : E) | or (a b : E) | ite (c a b : E)
  | ix (a i : E) | sl (a : E) (lo hi : List E) | rev (a : E)
  | fld (a : E) (f : Str)
  | call (f : Nat) (es : List E) | mk (c : Nat) (es : List E) | meth (m : Mt) (o : E) (es : List E)
  | fn (f : Fn) (es : List E)
  | isi (e : E) (ts : List Ty)
  | comp (elt : E) (tg : Tg) (k : ItK) (src : List E) (cond : List E)
inductive S where
  | set (t : Tg) (e : E)
  | setIx (o i e : E) | setF (o : E) (f : Str) (e : E)
  | setV (x : Nat) (i e : E)
  | mut (m : Str) (x : Nat) (es : List E)
  | expr (e : E)
  | ifS (c : E) (a b : List S)
  | whl (c : E) (a : List S)
  | for (t : Tg) (k : ItK) (src : List E) (a : List S)
  | ret (e : E) | retN | cont | pass
  | raise (c : Nat) (es : List E)
  | tryE (a : List S) (c : Nat) (x : Nat) (h : List S)
inductive Fl where
  | next | ret (d : D) (fr : Bool) | cont

/-! ### operations on data -/
def rdL (os : Os) : D → Option (List D)
  | .lst ds => some ds
  | .box i => match os[i]? with
    | some (.lst ds) => some ds
    | _ => none
  | _ => none
def mulOk (i j : Int) : Bool := decide (i.natAbs.log2 + j.natAbs.log2 < 100000000)
def signs (s : Str) : List D := s.cps.toList.map fun c => .str ⟨#[c]⟩
/-- a text k times -/
def repS (s : Str) (k : Nat) : Str := ⟨(List.replicate k s.cps.toList).flatten.toArray⟩
def RepOk (s : Str) (k : Int) : Prop := s.length * k.toNat ≤ 1000000 ∧ k < 1000000 ∧ -1000000 < k
def PowOk (i j : Int) : Prop := 0 ≤ j ∧ j ≤ 1000000 ∧ i.natAbs < 2 ^ 64
noncomputable section
open Classical in
def binD (o : Bop) (os : Os) (x y : D) : Option (D × Bool) := match o with
  | .add => match x, y with
    | .int i, .int j => some (.int (i + j), false)
    | .str s, .str t => if s.length + t.length ≤ sizeLine then some (.str (s ++ t), false) else none
    | .tup ds, .tup es => if ds.length + es.length ≤ sizeLine then some (.tup (ds ++ es), false) else none
    | x, y => match rdL os x, rdL os y with
      | some ds, some es => if ds.length + es.length ≤ sizeLine then some (.lst (ds ++ es), true) else none
      | _, _ => none
  | .sub => match x, y with
    | .int i, .int j => some (.int (i - j), false)
    | _, _ => none
  | .mul => match x, y with
    | .int i, .int j => if mulOk i j then some (.int (i * j), false) else none
    | .str s, .int k => if RepOk s k then some (.str (repS s k.toNat), false) else none
    | _, _ => none
  | .fdiv => match x, y with
    | .int i, .int j => if 0 < j ∧ j.natAbs.log2 < 9000 then some (.int (i / j), false) else none
    | _, _ => none
  | .mod => match x, y with
    | .int i, .int j => if 0 < j then some (.int (i % j), false) else none
    | _, _ => none
  | .pow => match x, y with
    | .int i, .int j => if PowOk i j then some (.int (i ^ j.toNat), false) else none
    | _, _ => none

end
/-! equality: by content -/
mutual
def eqD : D → D → Bool
  | .non, .non => true
  | .bl a, .bl b => a == b
  | .bl a, .int j => (if a then 1 else 0) == j
  | .int i, .bl b => i == (if b then 1 else 0)
  | .int i, .int j => i == j
  | .str x, .str y => decide (x = y)
  | .lst xs, .lst ys => eqDs xs ys
  | .tup xs, .tup ys => eqDs xs ys
  | _, _ => false
def eqDs : List D → List D → Bool
  | [], [] => true
  | x :: xs, y :: ys => eqD x y && eqDs xs ys
  | _, _ => false
end
mutual
/-- how deep, at most; none where == is not served -/
def dep : D → Option Nat
  | .lst xs => (deps xs).map (· + 1)
  | .tup xs => (deps xs).map (· + 1)
  | .dct _ => none
  | .box _ => none
  | _ => some 0
def deps : List D → Option Nat
  | [] => some 0
  | x :: xs => match dep x, deps xs with
    | some a, some b => some (max a b)
    | _, _ => none
end
def D.flat : D → Bool
  | .non => true
  | .bl _ => true
  | .int _ => true
  | .str _ => true
  | _ => false
/-- s has t as a part -/
def hasS (s t : Str) : Bool := !(Builtin.Str.occurrences s t 0 s.length 1).isEmpty
def hasKey (x : D) (kvs : List (D × D)) : Bool := kvs.any fun p => eqD p.1 x
def keyOk : D → Bool
  | .int _ => true
  | .str _ => true
  | _ => false
def inD (os : Os) (x y : D) : Option Bool := match y with
  | .str t => match x with
    | .str s => some (hasS t s)
    | _ => none
  | .tup ds => if x.flat && ds.all D.flat then some (ds.any fun d => eqD d x) else none
  | .lst ds => if x.flat && ds.all D.flat then some (ds.any fun d => eqD d x) else none
  | .dct kvs => if keyOk x && kvs.all fun p => keyOk p.1 then some (hasKey x kvs) else none
  | .box i => match os[i]? with
    | some (.lst ds) => if x.flat && ds.all D.flat then some (ds.any fun d => eqD d x) else none
    | some (.dct kvs) => if keyOk x && kvs.all fun p => keyOk p.1 then some (hasKey x kvs) else none
    | _ => none
  | _ => none
def snap (os : Os) (x : D) : D := match x with
  | .box i => match os[i]? with
    | some (.lst ds) => .lst ds
    | _ => x
  | x => x
def cmpD (o : Cop) (os : Os) (x y : D) : Option Bool := match o with
  | .eq => match dep (snap os x), dep (snap os y) with
    | some a, some b => if a ≤ 60 ∧ b ≤ 60 then some (eqD (snap os x) (snap os y)) else none
    | _, _ => none
  | .ne => match dep (snap os x), dep (snap os y) with
    | some a, some b => if a ≤ 60 ∧ b ≤ 60 then some (!eqD (snap os x) (snap os y)) else none
    | _, _ => none
  | .lt => match x, y with
    | .int i, .int j => some (decide (i < j))
    | _, _ => none
  | .le => match x, y with
    | .int i, .int j => some (decide (i ≤ j))
    | _, _ => none
  | .gt => match x, y with
    | .int i, .int j => some (decide (j < i))
    | _, _ => none
  | .ge => match x, y with
    | .int i, .int j => some (decide (j ≤ i))
    | _, _ => none
  | .isin => inD os x y
  | .notin => (inD os x y).map (! ·)
  | .is => match x, y with
    | .non, .non => some true
    | _, .non => some false
    | .bl a, .bl b => some (a == b)
    | _, _ => none
  | .isnot => match x, y with
    | .non, .non => some false
    | _, .non => some true
    | .bl a, .bl b => some (a != b)
    | _, _ => none

def getD (kvs : List (D × D)) (i : D) : Option D := if keyOk i && kvs.all fun p => keyOk p.1 then (kvs.find? fun p => eqD p.1 i).map (·.2) else none
def ixD (os : Os) (x i : D) : Option D := match x with
  | .tup ds => match i with
    | .int k => atI ds k
    | _ => none
  | .lst ds => match i with
    | .int k => atI ds k
    | _ => none
  | .str s => match i with
    | .int k => if s.length ≤ sizeLine then (atI s.cps.toList k).map fun c => .str ⟨#[c]⟩ else none
    | _ => none
  | .dct kvs => getD kvs i
  | .box j => match os[j]? with
    | some (.lst ds) => match i with
      | .int k => atI ds k
      | _ => none
    | some (.dct kvs) => getD kvs i
    | _ => none
  | _ => none
def cutD {α : Type} (xs : List α) (lo hi : Option Int) : List α := (xs.drop (HT.sIx xs.length 0 lo)).take (HT.sIx xs.length xs.length hi - HT.sIx xs.length 0 lo)
def intO : List D → Option (Option Int)
  | [] => some none
  | [.int i] => some (some i)
  | _ => none
def slD (os : Os) (x : D) (lo hi : Option Int) : Option (D × Bool) := match x with
  | .tup ds => some (.tup (cutD ds lo hi), false)
  | .str s => if s.length ≤ sizeLine then some (.str ⟨(cutD s.cps.toList lo hi).toArray⟩, false) else none
  | x => match rdL os x with
    | some ds => some (.lst (cutD ds lo hi), true)
    | none => none
def strsO : List D → Option (List Str)
  | [] => some []
  | .str s :: r => (strsO r).map (s :: ·)
  | _ :: _ => none
def seqO (os : Os) (x : D) : Option (List D) := match x with
  | .tup ds => some ds
  | x => rdL os x
def mtName : Mt → Str
  | .join => "join"
  | .find => "find"
  | .split => "split"
  | .index => "index"
def mtTy : Mt → String
  | .join => "str"
  | .find => "str"
  | .split => "str"
  | .index => "list"
def mtOk (m : Mt) (os : Os) (x : D) : Bool := match m with
  | .index => (rdL os x).isSome
  | _ => match x with
    | .str _ => true
    | _ => false
def JoinSz (a : Str) (ss : List Str) : Prop := (ss.map (·.length)).sum + ss.length * a.length ≤ 16777216
def SplitSz (a b : Str) : Prop := (b.length == 0) = false ∧ a.length + 2 ≤ sizeLine
noncomputable section
open Classical in
def methD (m : Mt) (os : Os) (x : D) (ys : List D) : Option (D × Bool) := match m, x, ys with
  | .join, .str a, [y] => match (seqO os y).bind strsO with
    | some ss => if JoinSz a ss then some (.str (Txt.join a ss), false) else none
    | none => none
  | .find, .str a, [.str b] => some (.int (Txt.find a b), false)
  | .split, .str a, [.str b] => if SplitSz a b then some (.lst ((Txt.split a b).map D.str), true) else none
  | .index, x, [y] => match rdL os x with
    | some ds => if y.flat && ds.all D.flat then (ds.findIdx? fun d => eqD d y).map fun j => (.int j, false) else none
    | none => none
  | _, _, _ => none
end
def intsO : List D → Option (List Int)
  | [] => some []
  | .int i :: r => (intsO r).map (i :: ·)
  | _ :: _ => none
def tyOf : D → Option String
  | .non => some "NoneType"
  | .bl _ => some "bool"
  | .int _ => some "int"
  | .str _ => some "str"
  | .tup _ => some "tuple"
  | .lst _ => some "list"
  | .dct _ => some "dict"
  | .box _ => none
def isD (t : Ty) (x : D) : Bool := match t, x with
  | .int, .int _ => true
  | .int, .bl _ => true
  | .bool, .bl _ => true
  | .str, .str _ => true
  | .list, .lst _ => true
  | .tuple, .tup _ => true
  | _, _ => false
end Vi

namespace Vi
open PySem L2

/-! ### the evaluator -/
structure CF where
  call : Nat → List D → Os → R Os (D × Bool)
  fuel : Nat
  meth : Nat → Str → Option Nat
  init : Nat → Option Nat
noncomputable section
open Classical

/-- bounds, kept shut (the kernel is not to reckon with them) -/
def Rg1 (b : Int) : Prop := -(2 ^ 62) ≤ b ∧ b < 2 ^ 62
def Rg2 (a b : Int) : Prop := -(2 ^ 62) ≤ a ∧ a < 2 ^ 62 ∧ -(2 ^ 62) ≤ b ∧ b < 2 ^ 62
def Rg3 (a b c : Int) : Prop := -(2 ^ 61) ≤ a ∧ a < 2 ^ 61 ∧ -(2 ^ 61) ≤ b ∧ b < 2 ^ 61 ∧ 0 < c ∧ c < 1000000
def srcOf (os : Os) (k : ItK) (ds : List D) : Option (List D) := match k, ds with
  | .val, [.str s] => some (signs s)
  | .val, [.tup ds] => some ds
  | .val, [x] => rdL os x
  | .range, [.int b] => if Rg1 b then some ((List.range b.toNat).map fun i : Nat => D.int i) else none
  | .range, [.int a, .int b] => if Rg2 a b then some ((List.range (b - a).toNat).map fun i : Nat => D.int (a + i)) else none
  | .range, [.int a, .int b, .int c] => if Rg3 a b c then some ((List.range ((b - a + c - 1) / c).toNat).map fun i : Nat => D.int (a + i * c)) else none
  | .enum, [x] => (rdL os x).map fun ds => ds.mapIdx fun i d => D.tup [.int i, d]
  | .zip, [x, y] => match rdL os x, rdL os y with
    | some ds, some es => some ((ds.zip es).map fun p => D.tup [p.1, p.2])
    | _, _ => none
  | .rev, [x] => (rdL os x).map List.reverse
  | _, _ => none
/-- the boxes that a loop walks -/
def boxesOf (os : Os) (ds : List D) : List (Nat × Bx) := ds.filterMap fun d => match d with
  | .box i => (os[i]?).map fun x => (i, x)
  | _ => none
def still (os : Os) (l : List (Nat × Bx)) : Prop := ∀ p ∈ l, os[p.1]? = some p.2

mutual
def setT : Tg → D → List Ent → Option (List Ent)
  | .nm i, d, env => some (env.set i (.val d false))
  | .tp ts, d, env => match d with
    | .tup ds => setTs ts ds env
    | _ => none
def setTs : List Tg → List D → List Ent → Option (List Ent)
  | [], [], env => some env
  | t :: ts, d :: ds, env => (setT t d env).bind (setTs ts ds)
  | _, _, _ => none
end

def ofB (z : Z) (b : Option Bool) : R Z (D × Bool) := match b with
  | some b => .ok (.bl b, false) z
  | none => .stuck
def ofD (z : Z) (b : Option D) : R Z (D × Bool) := match b with
  | some d => .ok (d, false) z
  | none => .stuck
def ofT (z : Z) (b : Option (D × Bool)) : R Z (D × Bool) := match b with
  | some d => .ok d z
  | none => .stuck
def fnD (f : Fn) (os : Os) (ds : List D) : Option (D × Bool) := match f, ds with
  | .len, [.str s] => if s.length ≤ sizeLine then some (.int s.length, false) else none
  | .len, [.tup ds] => some (.int ds.length, false)
  | .len, [.dct kvs] => if kvs.all fun p => keyOk p.1 then some (.int kvs.length, false) else none
  | .len, [.box i] => match os[i]? with
    | some (.lst ds) => some (.int ds.length, false)
    | some (.dct kvs) => if kvs.all fun p => keyOk p.1 then some (.int kvs.length, false) else none
    | _ => none
  | .len, [.lst ds] => some (.int ds.length, false)
  | .abs, [.int i] => some (.int (if i < 0 then -i else i), false)
  | .int, [.int i] => some (.int i, false)
  | .int, [.bl b] => some (.int (if b then 1 else 0), false)
  | .int, [.str a] => match PySem.intText? a with
    | some n => if a.length ≤ 640 then some (.int n, false) else none
    | none => none
  | .str, [.int i] => if i.natAbs.log2 < 1920 then some (.str (toString i), false) else none
  | .list, [.tup ds] => some (.lst ds, true)
  | .list, [x] => (rdL os x).map fun ds => (.lst ds, true)
  | .min, [.int i, .int j] => some (.int (if j < i then j else i), false)
  | .max, [.int i, .int j] => some (.int (if j > i then j else i), false)
  | .min, [x] => match (rdL os x).bind intsO with
    | some (i :: r) => some (.int (r.foldl (fun a b => if b < a then b else a) i), false)
    | _ => none
  | .max, [x] => match (rdL os x).bind intsO with
    | some (i :: r) => some (.int (r.foldl (fun a b => if b > a then b else a) i), false)
    | _ => none
  | .sum, [x] => match (rdL os x).bind intsO with
    | some is => some (.int is.sum, false)
    | _ => none
  | _, _ => none

def Ent.asVal : Ent → Option D
  | .val d _ => some d
  | _ => none

mutual
def Tg.slots : Tg → List Nat
  | .nm i => [i]
  | .tp ts => slotsL ts
def slotsL : List Tg → List Nat
  | [] => []
  | t :: ts => Tg.slots t ++ slotsL ts
end
def wipeE (env : List Ent) : List Nat → List Ent
  | [] => env
  | v :: vs => (wipeE env vs).set v .no
/-- behind a comprehension its own slots have what they had, if it is no list of their own -/
def backE (old env : List Ent) : List Nat → List Ent
  | [] => env
  | v :: vs => (backE old env vs).set v (match old[v]? with
    | some e => if e.owns = true then .no else e
    | none => .no)
/-- a comprehension's items -/
def compL (tg : Tg) (bod : Z → R Z (Option D)) (chk : List (Nat × Bx)) : List D → List D → Z → R Z (List D)
  | [], acc, z => if still z.os chk then .ok acc z else .stuck
  | x :: xs, acc, z =>
    if still z.os chk then
      match setT tg x z.env with
      | some env' => match bod ⟨env', z.os⟩ with
        | .ok (some y) z' => if acc.length < sizeLine then compL tg bod chk xs (acc ++ [y]) ⟨wipeE z'.env tg.slots, z'.os⟩ else .stuck
        | .ok none z' => compL tg bod chk xs acc ⟨wipeE z'.env tg.slots, z'.os⟩
        | _ => .stuck
      | none => .stuck
    else .stuck
def compZ (tg : Tg) (bod : Z → R Z (Option D)) (chk : List (Nat × Bx)) (xs : List D) (z : Z) : R Z (D × Bool) :=
  match compL tg bod chk xs [] ⟨wipeE z.env tg.slots, z.os⟩ with
  | .ok ys z' => .ok (.lst ys, true) ⟨backE z.env z'.env tg.slots, z'.os⟩
  | _ => .stuck
def eltIf (c elt : Z → R Z (D × Bool)) (z : Z) : R Z (Option D) := (c z).bind fun x z => match x.1 with
  | .bl true => (elt z).bind fun x z => .ok (some x.1) z
  | .bl false => .ok none z
  | _ => .stuck
def yesZ (z : Z) : R Z (D × Bool) := .ok (.bl true, false) z
/-- a whole comprehension, its source evaluated -/
def compK (tg : Tg) (k : ItK) (c elt : Z → R Z (D × Bool)) (ds : List D) (z : Z) : R Z (D × Bool) := match srcOf z.os k ds with
  | some xs => compZ tg (eltIf c elt) (boxesOf z.os ds) xs z
  | none => .stuck

def negZ (z : Z) (x : D) : R Z (D × Bool) := match x with
  | .int i => .ok (.int (-i), false) z
  | _ => .stuck
def boxZ (z : Z) (a : D × Bool) : R Z (D × Bool) := match a with
  | (.lst ds, true) => .ok (.box z.os.length, false) { z with os := z.os ++ [.lst ds] }
  | (.dct ds, true) => .ok (.box z.os.length, false) { z with os := z.os ++ [.dct ds] }
  | _ => .stuck
def withI {σ α : Type} (o : Option (Option Int)) (f : Option Int → R σ α) : R σ α := match o with
  | some l => f l
  | none => .stuck
def fldZ (z : Z) (f : Str) (x : D) : R Z (D × Bool) := match x with
  | .box i => match z.os[i]? with
    | some (.ins _ fs) => ofD z (fs.lookup f)
    | _ => .stuck
  | _ => .stuck
def isiZ (ts : List Ty) (z : Z) (x : D) : R Z (D × Bool) := match tyOf x with
  | some _ => .ok (.bl (ts.any fun t => isD t x), false) z
  | none => .stuck
def callZ (cf : CF) (f : Nat) (ds : List D) (z : Z) : R Z (D × Bool) := match cf.call f ds z.os with
  | .ok a os => .ok a { z with os := os }
  | .exc c x os => .exc c x { z with os := os }
  | .stuck => .stuck

mutual
def evalE (cf : CF) : E → Z → R Z (D × Bool)
  | .c d, z => .ok (d, false) z
  | .v i, z => match z.env[i]? with
    | some (.val d fr) => if (fr && d.cell) = true then .ok (d, false) { z with env := z.env.set i (.val d false) } else .ok (d, false) z
    | _ => .stuck
  | .b i, z => match z.env[i]? with
    | some (.val d _) => .ok (d, false) z
    | _ => .stuck
  | .tup es, z => (evalEs cf es z).bind fun ds z => .ok (.tup ds, false) z
  | .lst es, z => (evalEs cf es z).bind fun ds z => .ok (.lst ds, true) z
  | .dct [] [], z => .ok (.dct [], true) z
  | .dct _ _, z => .stuck
  | .box e, z => (evalE cf e z).bind fun a z => boxZ z a
  | .bin o a b, z => (evalE cf a z).bind fun x z => (evalE cf b z).bind fun y z => ofT z (binD o z.os x.1 y.1)
  | .neg a, z => (evalE cf a z).bind fun x z => negZ z x.1
  | .not a, z => (evalE cf a z).bind fun x z => match x.1 with
    | .bl b => .ok (.bl (!b), false) z
    | _ => .stuck
  | .cmp o a b, z => (evalE cf a z).bind fun x z => (evalE cf b z).bind fun y z => ofB z (cmpD o z.os x.1 y.1)
  | .chain o o' a b c, z => (evalE cf a z).bind fun x z => (evalE cf b z).bind fun y z => match cmpD o z.os x.1 y.1 with
    | some true => (evalE cf c z).bind fun u z => ofB z (cmpD o' z.os y.1 u.1)
    | some false => .ok (.bl false, false) z
    | none => .stuck
  | .and a b, z => (evalE cf a z).bind fun x z => match x.1 with
    | .bl true => evalE cf b z
    | .bl false => .ok (.bl false, false) z
    | _ => .stuck
  | .or a b, z => (evalE cf a z).bind fun x z => match x.1 with
    | .bl true => .ok (.bl true, false) z
    | .bl false => evalE cf b z
    | _ => .stuck
  | .ite c a b, z => (evalE cf c z).bind fun x z => match x.1 with
    | .bl true => evalE cf a z
    | .bl false => evalE cf b z
    | _ => .stuck
  | .ix a i, z => (evalE cf a z).bind fun x z => (evalE cf i z).bind fun y z => ofD z (ixD z.os x.1 y.1)
  | .sl a lo hi, z => (evalE cf a z).bind fun x z => (evalEs cf lo z).bind fun l z => withI (intO l) fun l => (evalEs cf hi z).bind fun h z => withI (intO h) fun h => ofT z (slD z.os x.1 l h)
  | .rev a, z => (evalE cf a z).bind fun x z => ofT z ((rdL z.os x.1).map fun ds => (.lst ds.reverse, true))
  | .fld a f, z => (evalE cf a z).bind fun x z => fldZ z f x.1
  | .call f es, z => (evalEs cf es z).bind fun ds z => callZ cf f ds z
  | .mk c es, z => .stuck
  | .meth m o es, z => (evalE cf o z).bind fun x z => if mtOk m z.os x.1 = true then (evalEs cf es z).bind fun ys z => ofT z (methD m z.os x.1 ys) else .stuck
  | .fn f es, z => (evalEs cf es z).bind fun ds z => ofT z (fnD f z.os ds)
  | .isi e ts, z => (evalE cf e z).bind fun x z => isiZ ts z x.1
  | .comp elt tg k src [], z => (evalEs cf src z).bind fun ds z => compK tg k yesZ (evalE cf elt) ds z
  | .comp elt tg k src (c :: _), z => (evalEs cf src z).bind fun ds z => compK tg k (evalE cf c) (evalE cf elt) ds z
def evalEs (cf : CF) : List E → Z → R Z (List D)
  | [], z => .ok [] z
  | e :: es, z => (evalE cf e z).bind fun x z => (evalEs cf es z).bind fun xs z => .ok (x.1 :: xs) z
end
end
end Vi

namespace Vi
open PySem L2
noncomputable section
open Classical

def forL (tg : Tg) (bod : Z → R Z Fl) (chk : List (Nat × Bx)) : List D → Z → R Z Fl
  | [], z => if still z.os chk then .ok .next z else .stuck
  | x :: xs, z =>
    if still z.os chk then
      match setT tg x z.env with
      | some env' => (bod ⟨env', z.os⟩).bind fun f z' => match f with
        | .ret d fr => .ok (.ret d fr) z'
        | _ => forL tg bod chk xs z'
      | none => .stuck
    else .stuck
def forK (t : Tg) (k : ItK) (bod : Z → R Z Fl) (ds : List D) (z : Z) : R Z Fl := match srcOf z.os k ds with
  | some xs => forL t bod (boxesOf z.os ds) xs z
  | none => .stuck
def whlL (c : Z → R Z (D × Bool)) (bod : Z → R Z Fl) : Nat → Z → R Z Fl
  | 0, _ => .stuck
  | n + 1, z => (c z).bind fun x z => match x.1 with
    | .bl true => (bod z).bind fun f z' => match f with
      | .ret d fr => .ok (.ret d fr) z'
      | _ => whlL c bod n z'
    | .bl false => .ok .next z
    | _ => .stuck
/-- a list is changed by a method: append, extend .. (what it gives is not asked) -/
def mutL (m : Str) (ds : List D) (args : List D) (os : Os) : Option (List D) :=
  if m = "append" then (match args with
    | [y] => if ds.length < sizeLine then some (ds ++ [y]) else none
    | _ => none)
  else if m = "extend" then (match args with
    | [y] => match rdL os y with
      | some es => if ds.length + es.length ≤ sizeLine then some (ds ++ es) else none
      | none => none
    | _ => none)
  else none
/-- o[i] = y, for a list or a dict -/
def setC (ds : List D) (i y : D) : Option (List D) := match i with
  | .int k => (ixN ds.length k).map fun j => ds.set j y
  | _ => none
def putD (k y : D) : List (D × D) → List (D × D)
  | [] => [(k, y)]
  | p :: r => if eqD p.1 k then (p.1, y) :: r else p :: putD k y r

/-- the list that a local has: its own, or in a box -/
def lisAt (z : Z) (x : Nat) : Option (List D) := match z.env[x]? with
  | some (.val (.lst ds) true) => some ds
  | some (.val (.box k) _) => match z.os[k]? with
    | some (.lst ds) => some ds
    | _ => none
  | _ => none
def putL (z : Z) (x : Nat) (ds : List D) : Z := match z.env[x]? with
  | some (.val (.box k) _) => { z with os := z.os.set k (.lst ds) }
  | _ => { z with env := z.env.set x (.val (.lst ds) true) }

mutual
def execS (cf : CF) : S → Z → R Z Fl
  | .set (.nm i) e, z => (evalE cf e z).bind fun a z => .ok .next { z with env := z.env.set i (.val a.1 a.2) }
  | .set (.tp ts) e, z => (evalE cf e z).bind fun a z => match setT (.tp ts) a.1 z.env with
    | some env => .ok .next { z with env := env }
    | none => .stuck
  | .setIx o i e, z => .stuck
  | .setF o f e, z => .stuck
  | .setV x i e, z => (evalE cf e z).bind fun y z => match lisAt z x with
    | some _ => (evalE cf i z).bind fun j z => match lisAt z x with
      | some ds => match setC ds j.1 y.1 with
        | some ds' => .ok .next (putL z x ds')
        | none => .stuck
      | none => .stuck
    | none => .stuck
  | .mut m x es, z => match lisAt z x with
    | some _ => (evalEs cf es z).bind fun ys z => match lisAt z x with
      | some ds => match mutL m ds ys z.os with
        | some ds' => .ok .next (putL z x ds')
        | none => .stuck
      | none => .stuck
    | none => .stuck
  | .expr e, z => (evalE cf e z).bind fun _ z => .ok .next z
  | .ifS c a b, z => (evalE cf c z).bind fun x z => match x.1 with
    | .bl true => execB cf a z
    | .bl false => execB cf b z
    | _ => .stuck
  | .whl c a, z => whlL (evalE cf c) (execB cf a) cf.fuel z
  | .for t k src a, z => (evalEs cf src z).bind fun ds z => forK t k (execB cf a) ds z
  | .ret e, z => match e with
    | .v i => match z.env[i]? with
      | some (.val d fr) => .ok (.ret d fr) z
      | _ => .stuck
    | e => (evalE cf e z).bind fun a z => .ok (.ret a.1 a.2) z
  | .retN, z => .ok (.ret .non false) z
  | .cont, z => .ok .cont z
  | .pass, z => .ok .next z
  | .raise c es, z => .stuck
  | .tryE a c x h, z => .stuck
def execB (cf : CF) : List S → Z → R Z Fl
  | [], z => .ok .next z
  | s :: r, z => (execS cf s z).bind fun f z => match f with
    | .next => execB cf r z
    | f => .ok f z
end

/-! ### a program -/
structure Df where
  n : Nat          -- how many parameters
  m : Nat          -- how many slots
  body : List S
structure Tb where
  defs : List Df
  meth : Nat → Str → Option Nat
  init : Nat → Option Nat
  fuel : Nat
def envOf (m : Nat) (ds : List D) : List Ent := ds.map (fun d => Ent.val d false) ++ List.replicate (m - ds.length) .no
def outF (r : R Z Fl) : R Os (D × Bool) := match r with
  | .ok .next z => .ok (.non, false) z.os
  | .ok (.ret d fr) z => .ok (d, fr) z.os
  | .ok .cont _ => .stuck
  | .exc c x z => .exc c x z.os
  | .stuck => .stuck
def call (T : Tb) : Nat → Nat → List D → Os → R Os (D × Bool)
  | 0, _, _, _ => .stuck
  | k + 1, f, ds, os => match T.defs[f]? with
    | some d => if ds.length = d.n then outF (execB ⟨call T k, T.fuel, T.meth, T.init⟩ d.body ⟨envOf d.m ds, os⟩) else .stuck
    | none => .stuck
def Tb.cf (T : Tb) (k : Nat) : CF := ⟨call T k, T.fuel, T.meth, T.init⟩
end
end Vi

namespace Vi
open PySem L2

section
variable {w : Wd} {xr : Nat → D → V → Prop} {X : Cx} {W : WX} {b : Bs} {g g2 : Gh} {z z2 : Z} {σ : St} {H H2 : Hp} {Q : VK}

theorem PostE.step {r : R Z (D × Bool)} (S2 : Sim w xr b g2 z2 σ H2) (st : Stp g H g2 H2) (k : PostE w xr W b g σ H Q r) : PostE w xr W b g2 σ H2 Q r := by
  cases r with
  | ok a z' => exact fun g' v H' s' S' t => k g' v H' (st.trans s') S' (t.weak fun a h => st.fresh S2 a h)
  | exc c x z' => exact fun g' cls dd H' s' S' t => k g' cls dd H' (st.trans s') S' t
  | stuck => exact k.elim
theorem PostF.step {r : R Z D} (st : Stp g H g2 H2) (k : PostF w xr W b g σ H Q r) : PostF w xr W b g2 σ H2 Q r := by
  cases r with
  | ok a z' => exact fun g' v H' s' S' t => k g' v H' (st.trans s') S' t
  | exc c x z' => exact fun g' cls dd H' s' S' t => k g' cls dd H' (st.trans s') S' t
  | stuck => exact k.elim
theorem PostB.step {r : R Z D} (st : Stp g H g2 H2) (k : PostB w xr W b g σ H Q r) : PostB w xr W b g2 σ H2 Q r := by
  cases r with
  | ok a z' => exact fun g' v H' s' S' t => k g' v H' (st.trans s') S' t
  | exc c x z' => exact fun g' cls dd H' s' S' t => k g' cls dd H' (st.trans s') S' t
  | stuck => exact k.elim

/-- the outcome stands as it is -/
theorem PostE.now {d : D} {v : V} (S : Sim w xr b g z σ H) (h : Rp g.F g.al d v) (k : PostE w xr W b g σ H Q (.ok (d, false) z)) : Q v H :=
  k g v H (.refl _ _) S (Tmp.frozen h)
/-- a new list -/
theorem PostE.new {d : D} {p : Addr} {o : HO} (S : Sim w xr b g z σ H) (hp : H p = none) (hd : d.cell = true) (hc : Cel g.F g.al (upd H p o) p d) (k : PostE w xr W b g σ H Q (.ok (d, true) z)) : Q (.ref p) (upd H p o) := by
  refine k g (.ref p) _ (Stp.alloc hp) (S.alloc hp) ?_
  unfold Tmp
  rw [if_pos (by simp [hd])]
  refine ⟨p, rfl, ⟨S.freshF hp, S.freshB hp, S.freshH hp, S.freshR hp, hc⟩, fun i e he ho q => ?_, hp⟩
  cases e with
  | no => cases ho
  | ex c x => cases ho
  | val d' fr =>
    obtain ⟨a, h1, h2, h3⟩ := S.ownAt he ho
    rw [h2] at q; cases q
    obtain ⟨u, hu⟩ := h3.cl.there
    rw [hp] at hu; cases hu
/-- a new tuple -/
theorem PostE.tup {ds : List D} {vs : List V} {p : Addr} (S : Sim w xr b g z σ H) (hp : H p = none) (hc : Rps g.F g.al ds vs) (k : PostE w xr W b g σ H Q (.ok (.tup ds, false) z)) : Q (.ref p) (upd H p (.tup vs)) := by
  have st : Stp g H ⟨upd g.F p (.tup vs), g.al⟩ (upd H p (.tup vs)) :=
    ⟨fun a o e => by show upd g.F p _ a = _; rw [upd_ne (fun q => by rw [q, S.freshF hp] at e; cases e)]; exact e, .refl _, fun a h => .inl h, (Stp.alloc (g := g) hp).keep⟩
  have S1 := S.alloc (o := .tup vs) hp
  refine k ⟨upd g.F p (.tup vs), g.al⟩ (.ref p) _ st ⟨fun a o e => ?_, fun a ha => ?_, S1.kept, S.pF.trans st.F, S.pre, S.alnew, fun a ha => ?_, S.nd, Paired.imp (fun x a q => q.mono st.F (.refl _) fun _ q => q) S1.box, S.len, S.ln, fun i e he => ?_, S.dis, fun a ha => ?_⟩ ?_
  · by_cases h : a = p
    · subst h; dsimp only at e; rw [upd_same] at e ⊢; exact e
    · dsimp only at e; rw [upd_ne h] at e ⊢; exact S.sub a o e
  · by_cases h : a = p
    · subst h; exact .inr (S.freshH hp)
    · dsimp only at ha; rw [upd_ne h] at ha; exact S.new a ha
  · show upd g.F p _ a = none
    rw [upd_ne (fun q : a = p => S.freshB hp (by rw [← q]; exact ha))]
    exact S.alF a ha
  · refine (S.ent i e he).mono st fun a v e1 ho ev => ?_
    show upd g.F p _ a = none
    cases e with
    | no => cases ho
    | ex c x => cases ho
    | val d' fr =>
      obtain ⟨a', h1, h2, h3⟩ := S.ownAt he ho
      rw [h1] at e1; cases e1; cases ev
      obtain ⟨u, hu⟩ := h3.cl.there
      rw [upd_ne (ne_of_none hu hp)]
      exact h3.nF
  · obtain ⟨h1, h2, o, h3⟩ := S.rs a ha
    refine ⟨?_, h2, o, ?_⟩
    · show upd g.F p _ a = none
      rw [upd_ne (ne_of_none h3 hp)]; exact h1
    · rw [upd_ne (ne_of_none h3 hp)]; exact h3
  · refine Tmp.frozen ?_
    simp only [Rp]
    exact ⟨p, vs, rfl, upd_same, Rps.mono st.F (.refl _) _ _ hc⟩

/-! ### leaves -/
theorem s_c {e : Expr} {d : D} {v : V} (p : PE X e (tC v)) (hr : ∀ F al, Rp F al d v) : SndE w xr X W e fun z => .ok (d, false) z :=
  ⟨_, p, fun b g z σ H Q S k => k.now S (hr _ _)⟩
theorem rp_int {i : Int} : ∀ F al, Rp F al (.int i) (.int i) := fun _ _ => by simp [Rp]
theorem rp_bl {i : Bool} : ∀ F al, Rp F al (.bl i) (.bl i) := fun _ _ => by simp [Rp]
theorem rp_non : ∀ F al, Rp F al .non .non := fun _ _ => by simp [Rp]
theorem rp_str {s : Str} (h : PyData.strOk s = true) : ∀ F al, Rp F al (.str s) (.str s) := fun _ _ => by simp [Rp, h]

theorem s_v {cf : CF} {i : Nat} {x : Str} {pos : Pos} (hN : X.N[i]? = some x) (hv : Vis X.env.scope x) (hd : (x == ("__debug__" : Str)) = false) (hcd : (x == ("__classdict__" : Str)) = false) :
    SndE w xr X W (.Name x pos) (evalE cf (.v i)) := by
  refine ⟨_, pe_var hN hv hd hcd, fun b g z σ H Q S k => ?_⟩
  simp only [evalE] at k
  split at k
  · rename_i d fr he
    split at k
    · rename_i hc
      obtain ⟨a, h1, h2, ow⟩ := S.ownAt he hc
      refine ⟨_, h1, ?_⟩
      have hi : i < z.env.length := (List.getElem?_eq_some_iff.mp he).1
      obtain ⟨S', r⟩ := S.freeze (env' := z.env.set i (.val d false)) ow (by simp) fun j e hj => by
        by_cases hij : j = i
        · subst hij
          rw [List.getElem?_set_self hi] at hj
          cases hj
          exact .inr ⟨d, rfl, h2, rfl⟩
        · rw [List.getElem?_set_ne (Ne.symm hij)] at hj
          exact .inl ⟨hj, fun ho => h2 ▸ S.dis j i e _ hij hj he ho hc⟩
      exact k _ _ _ (freeze_stp ow.nF) S' (Tmp.frozen r)
    · rename_i hc
      obtain ⟨v, h1, h2⟩ := S.ent i _ he
      unfold ValRel at h2
      rw [if_neg hc] at h2
      exact ⟨v, h1, k.now S h2⟩
  · exact k.elim
theorem s_b {cf : CF} {i : Nat} {x : Str} {pos : Pos} (hN : X.N[i]? = some x) (hv : Vis X.env.scope x) (hd : (x == ("__debug__" : Str)) = false) (hcd : (x == ("__classdict__" : Str)) = false) :
    SndB w xr X W (.Name x pos) (fun z => fst1 (evalE cf (.b i) z)) := by
  refine ⟨_, pe_var hN hv hd hcd, fun b g z σ H Q S k => ?_⟩
  simp only [evalE] at k
  split at k
  · rename_i d fr he
    obtain ⟨v, h1, h2⟩ := S.ent i _ he
    refine ⟨v, h1, k g v H (.refl _ _) S ?_⟩
    unfold ValRel at h2
    split at h2
    · obtain ⟨a, rfl, ow⟩ := h2
      exact Rb.own ow
    · exact Rb.of S h2
  · exact k.elim

/-! ### two operands that are read -/
def SndP (w : Wd) (xr : Nat → D → V → Prop) (W : WX) (P : TE → Prop) (f : Z → R Z (D × Bool)) : Prop :=
  ∃ t, P t ∧ ∀ b g z σ H Q, Sim w xr b g z σ H → PostE w xr W b g σ H Q (f z) → t σ H Q
theorem s_two {P : TE → Prop} {ea eb : Expr} {fa fb : Z → R Z (D × Bool)} {r : R2} {G : Z → D → D → R Z (D × Bool)} (ha : SndB w xr X W ea fun z => fst1 (fa z)) (hb : SndB w xr X W eb fun z => fst1 (fb z))
    (hpe : ∀ ta tb, PE X ea ta → PE X eb tb → P (tOp r ta tb))
    (hr : ∀ b g z σ H Q x y vx vy, Sim w xr b g z σ H → Rb w g H x vx → Rb w g H y vy → PostE w xr W b g σ H Q (G z x y) → r vx vy H Q) :
    SndP w xr W P fun z => (fa z).bind fun x z => (fb z).bind fun y z => G z x.1 y.1 := by
  obtain ⟨ta, pa, qa⟩ := ha
  obtain ⟨tb, pb, qb⟩ := hb
  refine ⟨_, hpe ta tb pa pb, fun b g z σ H Q S k => qa b g z σ H _ S ?_⟩
  simp only [fst1]
  dsimp only at k
  cases ra : fa z with
  | stuck => rw [ra] at k; exact k
  | exc c x z' => rw [ra] at k; exact k
  | ok x z1 =>
    rw [ra] at k
    intro g1 vx H1 st1 S1 rx
    refine qb b g1 z1 σ H1 _ S1 ?_
    have k1 := PostE.step S1 st1 k
    simp only [fst1]
    simp only [R.bind_ok] at k1
    cases rb : fb z1 with
    | stuck => rw [rb] at k1; exact k1
    | exc c x z' => rw [rb] at k1; exact k1
    | ok y z2 =>
      rw [rb] at k1
      intro g2 vy H2 st2 S2 ry
      exact hr b g2 z2 σ H2 Q x.1 y.1 vx vy S2 (rx.mono st2) ry (PostE.step S2 st2 k1)
/-- one operand that is read -/
theorem s_one {P : TE → Prop} {ea : Expr} {fa : Z → R Z (D × Bool)} {r : V → Hp → VK → Prop} {G : Z → D → R Z (D × Bool)} (ha : SndB w xr X W ea fun z => fst1 (fa z))
    (hpe : ∀ ta, PE X ea ta → P (tUn r ta))
    (hr : ∀ b g z σ H Q x vx, Sim w xr b g z σ H → Rb w g H x vx → PostE w xr W b g σ H Q (G z x) → r vx H Q) :
    SndP w xr W P fun z => (fa z).bind fun x z => G z x.1 := by
  obtain ⟨ta, pa, qa⟩ := ha
  refine ⟨_, hpe ta pa, fun b g z σ H Q S k => qa b g z σ H _ S ?_⟩
  simp only [fst1]
  dsimp only at k
  cases ra : fa z with
  | stuck => rw [ra] at k; exact k
  | exc c x z' => rw [ra] at k; exact k
  | ok x z1 =>
    rw [ra] at k
    intro g1 vx H1 st1 S1 rx
    exact hr b g1 z1 σ H1 Q x.1 vx S1 rx (PostE.step S1 st1 k)

/-! ### reading data -/
theorem Rb.int {i : Int} {v : V} (h : Rb w g H (.int i) v) : v = .int i := by simpa [Rb, Rp] using h
theorem Rb.bl {i : Bool} {v : V} (h : Rb w g H (.bl i) v) : v = .bl i := by simpa [Rb, Rp] using h
theorem Rb.non {v : V} (h : Rb w g H .non v) : v = .non := by simpa [Rb, Rp] using h
theorem Rb.str {s : Str} {v : V} (h : Rb w g H (.str s) v) : v = .str s ∧ PyData.strOk s = true := by simpa [Rb, Rp] using h
theorem Rb.tup (S : Sim w xr b g z σ H) {ds : List D} {v : V} (h : Rb w g H (.tup ds) v) : ∃ a vs, v = .ref a ∧ H a = some (.tup vs) ∧ Rps g.F g.al ds vs := by
  simp only [Rb, Rp] at h
  obtain ⟨a, vs, e, q, r⟩ := h
  exact ⟨a, vs, e, S.sub _ _ q, r⟩
theorem rdL_of (S : Sim w xr b g z σ H) {d : D} {v : V} {ds : List D} (h : Rb w g H d v) (e : rdL z.os d = some ds) : ∃ a vs, v = .ref a ∧ Rd H a (.lst vs) ∧ Rps g.F g.al ds vs := by
  cases d with
  | lst ds' =>
    simp only [rdL] at e; cases e
    obtain ⟨a, vs, e1, q, r⟩ := h
    exact ⟨a, vs, e1, unbox_sub.rd q, r⟩
  | box i =>
    simp only [rdL] at e
    split at e
    · rename_i ds' hi
      cases e
      have h' : Rp g.F g.al (.box i) v := h
      simp only [Rp] at h'
      obtain ⟨a, ha, rfl⟩ := h'
      obtain ⟨a', ha', q⟩ := S.boxAt hi
      rw [ha] at ha'; cases ha'
      obtain ⟨vs, q1, q2⟩ := q
      exact ⟨a, vs, rfl, .inl q1, q2⟩
    · cases e
  | _ => simp [rdL] at e
theorem Inv.rdl {pins : List (Addr × Obj)} {s : Shared} {a : Addr} {vs : List V} (I : Inv X pins σ H s) (h : Rd H a (.lst vs)) :
    vs.length ≤ sizeLine ∧ ∃ (its : List Value) (n : Nat), Vals vs its ∧ vs.length = its.length ∧ s.heap.get? a = some { cls := .type "list", data := .seq its.toArray n } := by
  obtain ⟨z, its, n, r, e⟩ := h.ok I.hok
  exact ⟨z, its, n, r, r.length, e⟩
theorem Inv.rdt {pins : List (Addr × Obj)} {s : Shared} {a : Addr} {vs : List V} (I : Inv X pins σ H s) (h : H a = some (.tup vs)) :
    vs.length ≤ sizeLine ∧ ∃ its : List Value, Vals vs its ∧ vs.length = its.length ∧ PyProof.Rows.IsTup s.heap a its.toArray := by
  obtain ⟨z, its, r, e⟩ := I.hok _ _ h
  exact ⟨z, its, r, r.length, e⟩
end
end Vi

namespace Vi
open PySem L2

/-! ### texts -/
theorem strOk_append {s t : Str} (hs : PyData.strOk s = true) (ht : PyData.strOk t = true) : PyData.strOk (s ++ t) = true := by
  unfold PyData.strOk at *
  rw [Array.all_eq_true'] at *
  intro x hx
  have e : (s ++ t).cps = s.cps ++ t.cps := rfl
  rw [e] at hx
  rcases Array.mem_append.mp hx with h | h
  · exact hs x h
  · exact ht x h
theorem strOk_of {s t : Str} (hs : PyData.strOk s = true) (h : ∀ c ∈ t.cps.toList, c ∈ s.cps.toList) : PyData.strOk t = true := by
  unfold PyData.strOk at *
  rw [Array.all_eq_true'] at *
  intro x hx
  exact hs x (by simpa using h x (by simpa using hx))

section
variable {w : Wd} {xr : Nat → D → V → Prop} {X : Cx} {W : WX} {b : Bs} {g : Gh} {z : Z} {σ : St} {H : Hp} {Q : VK}

def rCatR : R2 := fun x y H Q => ∃ l m xs ys, x = .ref l ∧ y = .ref m ∧ Rd H l (.lst xs) ∧ Rd H m (.lst ys) ∧ xs.length + ys.length ≤ sizeLine ∧ ∀ p, H p = none → Q (.ref p) (upd H p (.lst (xs ++ ys)))
theorem op_catR : OpR X (binaryOp .Add) rCatR := by
  rintro pins s σ H x y v u Q I rx ry ⟨l, m, xs, ys, rfl, rfl, h1, h2, hz, q⟩
  cases rx; cases ry
  obtain ⟨_, as, n, ra, la, ea⟩ := Inv.rdl I h1
  obtain ⟨_, bs, k, rb, lb, eb⟩ := Inv.rdl I h2
  refine PySem.P.add_list ea eb ?_ (by rw [List.size_toArray, List.size_toArray, ← la, ← lb]; exact hz)
  rw [show as.toArray ++ bs.toArray = (as ++ bs).toArray by simp]
  exact ⟨.ref _, _, I.lnew (t' := s.toks) (ra.append rb) (by rw [List.length_append]; exact hz), rfl, q _ I.fresh⟩
def rMulS : R2 := fun x y H Q => ∃ s k, x = .str s ∧ y = .int k ∧ s.length * k.toNat ≤ 1000000 ∧ k < 1000000 ∧ -1000000 < k ∧ Q (.str (Txt.mul s k)) H
theorem op_mulS : OpR X (binaryOp .Mult) rMulS := by
  rintro pins s σ H x y v u Q I rx ry ⟨t, k, rfl, rfl, h1, h2, h3, q⟩
  obtain ⟨tk, rfl⟩ := rx
  obtain ⟨tk', rfl⟩ := ry
  have hN : k.toNat ≤ 16777216 := by omega
  have hok : MulOk t k := PyProof.Rows.mulOk_of t.length k.toNat (Nat.le_refl _) (by omega) (by omega) hN (by omega)
  exact PySem.SB.mul hok fun t' k' => ⟨.str _, H, I.tok _, ⟨_, rfl⟩, q⟩
theorem foldl_app (x : Array Nat) : ∀ (k : Nat) (acc : Array Nat), ((List.replicate k x).foldl (· ++ ·) acc).toList = acc.toList ++ (List.replicate k x.toList).flatten
  | 0, acc => by simp
  | k + 1, acc => by
    rw [List.replicate_succ, List.foldl_cons, foldl_app x k]
    simp [List.replicate_succ]
theorem mul_rep (s : Str) (k : Int) : Txt.mul s k = repS s k.toNat := by
  unfold Txt.mul repS
  split
  · rename_i h
    have : k.toNat = 0 := by omega
    rw [this]; rfl
  · split
    · rename_i h1 h2
      rw [Bool.or_eq_true] at h2
      rcases h2 with h2 | h2
      · have : k = 1 := by simpa using h2
        subst this
        simp
      · have hs : s.cps = #[] := by
          have : s.cps.size = 0 := by simpa [Str.length] using h2
          exact Array.eq_empty_of_size_eq_zero this
        cases s with
        | mk c =>
          simp only at hs
          subst hs
          simp
    · have := foldl_app s.cps k.toNat #[]
      congr 1
      apply Array.toList_inj.mp
      rw [this]
      simp
theorem strOk_rep {s : Str} (k : Nat) (h : PyData.strOk s = true) : PyData.strOk (repS s k) = true := strOk_of h fun c hc => by
  unfold repS at hc
  simp only [List.toList_toArray, List.mem_flatten, List.mem_replicate] at hc
  obtain ⟨l, ⟨_, rfl⟩, hc⟩ := hc
  exact hc
def CMulV (i j : Int) : Prop := mulOk i j = true
theorem CMulV.ok {i j : Int} (h : CMulV i j) : IntMulOk i j := by
  have b : ∀ x : Int, Builtin.Int.intBits x ≤ x.natAbs.log2 + 1 := fun x => by
    unfold Builtin.Int.intBits
    split <;> omega
  have h1 := b i
  have h2 := b j
  have h3 : i.natAbs.log2 + j.natAbs.log2 < 100000000 := by simpa [CMulV, mulOk] using h
  have e : bitsLine = 134217728 := by decide
  unfold IntMulOk
  intro q
  simp only [Builtin.Int.intTooBig, Bool.and_eq_true, decide_eq_true_eq] at q
  omega
theorem op_mulV : OpR X (binaryOp .Mult) (rI CMulV fun i j => .int (i * j)) := opI fun _ _ _ _ _ _ _ hc q => PyProof.Rows.mul_int q hc.ok

/-! ### the operators -/
def orR (r r' : R2) : R2 := fun x y H Q => r x y H Q ∨ r' x y H Q
def rStrAdd : R2 := fun x y H Q => ∃ i j, x = .str i ∧ y = .str j ∧ i.length + j.length ≤ sizeLine ∧ Q (.str (i ++ j)) H
def rBin (K : PySem.W.Frag) : Bop → R2
  | .add => orR (rI0 fun i j => .int (i + j)) (orR rStrAdd (orR (rCatA K) rCatR))
  | .sub => rI0 fun i j => .int (i - j)
  | .mul => orR (rI CMulV fun i j => .int (i * j)) rMulS
  | .fdiv => rI CDivW fun i j => .int (i / j)
  | .mod => rI (fun _ j => 0 < j) fun i j => .int (i % j)
  | .pow => rI CPow fun i j => .int (i ^ j.toNat)
def bopO : Bop → Operator
  | .add => .Add
  | .sub => .Sub
  | .mul => .Mult
  | .fdiv => .FloorDiv
  | .mod => .Mod
  | .pow => .Pow
theorem op_bin : ∀ o : Bop, OpR X (binaryOp (bopO o)) (rBin X.K o)
  | .add => op_add.or (op_add_str.or (op_catA.or op_catR))
  | .sub => op_sub
  | .mul => op_mulV.or op_mulS
  | .fdiv => op_fdivW
  | .mod => op_mod
  | .pow => op_pow
theorem cel_lst {F : Hp} {al : List Addr} {ds : List D} {vs : List V} {p : Addr} (r : Rps F al ds vs) : Cel F al (upd H p (.lst vs)) p (.lst ds) := ⟨vs, upd_same, r⟩
theorem Rps.nil_iff {F : Hp} {al : List Addr} {ds : List D} {vs : List V} (r : Rps F al ds vs) : vs = [] ↔ ds = [] := by
  have := Rps.length r
  constructor
  · intro h; subst h; exact List.length_eq_zero_iff.mp (by simpa using this.symm)
  · intro h; subst h; exact List.length_eq_zero_iff.mp (by simpa using this)
theorem PostE.tupRd {ds : List D} {vs : List V} {a : Addr} (S : Sim w xr b g z σ H) (h : Rd H a (.tup vs)) (hr : Rps g.F g.al ds vs) (hF : Rp g.F g.al (.tup ds) (.ref a)) (k : PostE w xr W b g σ H Q (.ok (.tup ds, false) z)) : Q (.ref a) H := k.now S hF
theorem bin_hr (o : Bop) : ∀ b g z σ H Q x y vx vy, Sim w xr b g z σ H → Rb w g H x vx → Rb w g H y vy → PostE w xr W b g σ H Q (ofT z (binD o z.os x y)) → rBin X.K o vx vy H Q := by
  intro b g z σ H Q x y vx vy S rx ry k
  have lists : ∀ ds es, rdL z.os x = some ds → rdL z.os y = some es → PostE w xr W b g σ H Q (ofT z (if ds.length + es.length ≤ sizeLine then some (.lst (ds ++ es), true) else none)) → rCatR vx vy H Q := by
    intro ds es h1 h2 k
    obtain ⟨a, vs, rfl, r1, q1⟩ := rdL_of S rx h1
    obtain ⟨c, us, rfl, r2, q2⟩ := rdL_of S ry h2
    split at k
    · rename_i hz
      refine ⟨a, c, vs, us, rfl, rfl, r1, r2, by rw [Rps.length q1, Rps.length q2]; exact hz, fun p hp => ?_⟩
      exact k.new S hp rfl (cel_lst (Rps.append q1 q2))
    · exact k.elim
  cases o with
  | add =>
    simp only [binD] at k
    split at k
    · rename_i i j
      rw [rx.int, ry.int]
      exact .inl ⟨i, j, rfl, rfl, k.now S (rp_int _ _)⟩
    · rename_i s t
      obtain ⟨rfl, hs⟩ := rx.str
      obtain ⟨rfl, ht⟩ := ry.str
      split at k
      · rename_i hz
        exact .inr (.inl ⟨s, t, rfl, rfl, hz, k.now S (rp_str (strOk_append hs ht) _ _)⟩)
      · exact k.elim
    · rename_i ds es
      split at k
      · rename_i hz
        have rx' : Rp g.F g.al (.tup ds) vx := rx
        have ry' : Rp g.F g.al (.tup es) vy := ry
        obtain ⟨a, vs, rfl, r1, q1⟩ := rx.tup S
        obtain ⟨c, us, rfl, r2, q2⟩ := ry.tup S
        refine .inr (.inr (.inl ⟨a, c, vs, us, rfl, rfl, SqT.of r1, SqT.of r2, by rw [Rps.length q1, Rps.length q2]; exact hz, fun h => ?_, fun _ h => ?_, fun _ _ p hp => ?_⟩))
        · have := (Rps.nil_iff q1).mp h; subst this
          exact k.now S (by simpa using ry')
        · have := (Rps.nil_iff q2).mp h; subst this
          exact k.now S (by simpa using rx')
        · exact k.tup S hp (Rps.append q1 q2)
      · exact k.elim
    · split at k
      · rename_i ds es h1 h2
        exact .inr (.inr (.inr (lists ds es h1 h2 k)))
      · exact k.elim
  | sub =>
    simp only [binD] at k
    split at k
    · rename_i i j
      rw [rx.int, ry.int]
      exact ⟨i, j, rfl, rfl, k.now S (rp_int _ _)⟩
    · exact k.elim
  | mul =>
    simp only [binD] at k
    split at k
    · rename_i i j
      rw [rx.int, ry.int]
      split at k
      · rename_i h
        exact .inl ⟨i, j, rfl, rfl, h, k.now S (rp_int _ _)⟩
      · exact k.elim
    · rename_i s j
      obtain ⟨rfl, hs⟩ := rx.str
      rw [ry.int]
      split at k
      · rename_i h
        exact .inr ⟨s, j, rfl, rfl, h.1, h.2.1, h.2.2, by rw [mul_rep]; exact k.now S (rp_str (strOk_rep _ hs) _ _)⟩
      · exact k.elim
    · exact k.elim
  | fdiv =>
    simp only [binD] at k
    split at k
    · rename_i i j
      rw [rx.int, ry.int]
      split at k
      · rename_i h
        exact ⟨i, j, rfl, rfl, h, k.now S (rp_int _ _)⟩
      · exact k.elim
    · exact k.elim
  | mod =>
    simp only [binD] at k
    split at k
    · rename_i i j
      rw [rx.int, ry.int]
      split at k
      · rename_i h
        exact ⟨i, j, rfl, rfl, h, k.now S (rp_int _ _)⟩
      · exact k.elim
    · exact k.elim
  | pow =>
    simp only [binD] at k
    split at k
    · rename_i i j
      rw [rx.int, ry.int]
      split at k
      · rename_i h
        exact ⟨i, j, rfl, rfl, h, k.now S (rp_int _ _)⟩
      · exact k.elim
    · exact k.elim
theorem s_bin {cf : CF} {o : Bop} {ea eb : Expr} {ia ib : E} {pos : Pos} (ha : SndB w xr X W ea fun z => fst1 (evalE cf ia z)) (hb : SndB w xr X W eb fun z => fst1 (evalE cf ib z)) :
    SndE w xr X W (.BinOp ea (bopO o) eb pos) (evalE cf (.bin o ia ib)) := by
  have := fun h => (show SndE w xr X W (.BinOp ea (bopO o) eb pos) _ from s_two (w := w) (xr := xr) (W := W) (P := PE X (.BinOp ea (bopO o) eb pos)) (r := rBin X.K o) (G := fun z x y => ofT z (binD o z.os x y)) ha hb (fun ta tb pa pb => pe_op (op_bin o) pa pb) h)
  simpa only [evalE] using this (bin_hr o)
end
end Vi

namespace Vi
open PySem L2

/-! ### data as the library has it -/
mutual
def pyD : D → PyData
  | .non => .none
  | .bl b => .bool b
  | .int i => .int i
  | .str s => .str s
  | .tup ds => .tuple (pyDs ds)
  | .lst ds => .list (pyDs ds)
  | .dct _ => .none
  | .box _ => .none
def pyDs : List D → List PyData
  | [] => []
  | d :: ds => pyD d :: pyDs ds
end
theorem deps_cons {x : D} {xs : List D} {n : Nat} (h : deps (x :: xs) = some n) : ∃ a b, dep x = some a ∧ deps xs = some b ∧ n = max a b := by
  simp only [deps] at h
  split at h
  · rename_i a b h1 h2
    cases h; exact ⟨a, b, h1, h2, rfl⟩
  · cases h
theorem dep_lst {xs : List D} {n : Nat} (h : dep (.lst xs) = some n) : ∃ a, deps xs = some a ∧ n = a + 1 := by
  simp only [dep, Option.map_eq_some_iff] at h
  obtain ⟨a, h1, h2⟩ := h
  exact ⟨a, h1, h2.symm⟩
theorem dep_tup {xs : List D} {n : Nat} (h : dep (.tup xs) = some n) : ∃ a, deps xs = some a ∧ n = a + 1 := by
  simp only [dep, Option.map_eq_some_iff] at h
  obtain ⟨a, h1, h2⟩ := h
  exact ⟨a, h1, h2.symm⟩

section
variable {K : PySem.W.Frag} {F H : Hp} {al : List Addr}
mutual
theorem dp_of (hs : Sub F H) : ∀ (d : D) (v : V) (n : Nat), Rp F al d v → dep d = some n → Dp K H v (pyD d) ∧ (pyD d).canLay0 = true ∧ (pyD d).depth = n
  | .non, v, n, r, e => by
    simp only [Rp] at r; subst r; simp only [dep] at e; cases e
    exact ⟨by simp only [pyD]; exact .non, rfl, rfl⟩
  | .bl b, v, n, r, e => by
    simp only [Rp] at r; subst r; simp only [dep] at e; cases e
    exact ⟨by simp only [pyD]; exact .bl b, rfl, rfl⟩
  | .int b, v, n, r, e => by
    simp only [Rp] at r; subst r; simp only [dep] at e; cases e
    exact ⟨by simp only [pyD]; exact .int b, rfl, rfl⟩
  | .str b, v, n, r, e => by
    simp only [Rp] at r; obtain ⟨rfl, h⟩ := r; simp only [dep] at e; cases e
    exact ⟨by simp only [pyD]; exact .str b, by simp only [pyD, PyData.canLay0]; exact h, rfl⟩
  | .tup ds, v, n, r, e => by
    simp only [Rp] at r
    obtain ⟨a, vs, rfl, q, t⟩ := r
    obtain ⟨m, e1, rfl⟩ := dep_tup e
    obtain ⟨h1, h2, h3⟩ := dps_of hs ds vs m t e1
    simp only [pyD, PyData.canLay0, PyData.depth]
    exact ⟨.tup (SqT.of (hs _ _ q)) h1, h2, by rw [h3]⟩
  | .lst ds, v, n, r, e => by
    simp only [Rp] at r
    obtain ⟨a, vs, rfl, q, t⟩ := r
    obtain ⟨m, e1, rfl⟩ := dep_lst e
    obtain ⟨h1, h2, h3⟩ := dps_of hs ds vs m t e1
    simp only [pyD, PyData.canLay0, PyData.depth]
    exact ⟨.lst (.inl (hs.rd q)) h1, h2, by rw [h3]⟩
  | .dct _, _, _, _, e => by simp [dep] at e
  | .box _, _, _, _, e => by simp [dep] at e
theorem dps_of (hs : Sub F H) : ∀ (ds : List D) (vs : List V) (n : Nat), Rps F al ds vs → deps ds = some n → DpAll K H vs (pyDs ds) ∧ PyData.canLayAll0 (pyDs ds) = true ∧ PyData.depthAll (pyDs ds) = n
  | [], vs, n, r, e => by
    simp only [Rps] at r; subst r; simp only [deps] at e; cases e
    exact ⟨by simp only [pyDs]; exact .nil, rfl, rfl⟩
  | d :: ds, vs, n, r, e => by
    simp only [Rps] at r
    obtain ⟨v, u, rfl, r1, r2⟩ := r
    obtain ⟨a, c, e1, e2, rfl⟩ := deps_cons e
    obtain ⟨h1, h2, h3⟩ := dp_of hs d v a r1 e1
    obtain ⟨h4, h5, h6⟩ := dps_of hs ds u c r2 e2
    simp only [pyDs, PyData.canLayAll0, PyData.depthAll]
    exact ⟨.cons h1 h4, by rw [h2, h5]; rfl, by rw [h3, h6]⟩
end
end
mutual
theorem eqv_eqD : ∀ (d e : D) (m n : Nat), dep d = some m → dep e = some n → PyData.eqv (pyD d) (pyD e) = eqD d e
  | .non, e, m, n, h, h' => by cases e <;> first | rfl | (simp [dep] at h')
  | .bl b, e, m, n, h, h' => by cases e <;> first | rfl | (simp [dep] at h')
  | .int b, e, m, n, h, h' => by cases e <;> first | rfl | (simp [dep] at h')
  | .str b, e, m, n, h, h' => by
    cases e with
    | str c => simp only [pyD, PyData.eqv, eqD]; rw [Bool.beq_eq_decide_eq]
    | dct _ => simp [dep] at h'
    | box _ => simp [dep] at h'
    | _ => rfl
  | .tup ds, e, m, n, h, h' => by
    obtain ⟨m', e1, rfl⟩ := dep_tup h
    cases e with
    | tup es =>
      obtain ⟨n', e2, rfl⟩ := dep_tup h'
      simp only [pyD, PyData.eqv, eqD]
      exact eqvs_eqDs ds es m' n' e1 e2
    | dct _ => simp [dep] at h'
    | box _ => simp [dep] at h'
    | _ => rfl
  | .lst ds, e, m, n, h, h' => by
    obtain ⟨m', e1, rfl⟩ := dep_lst h
    cases e with
    | lst es =>
      obtain ⟨n', e2, rfl⟩ := dep_lst h'
      simp only [pyD, PyData.eqv, eqD]
      exact eqvs_eqDs ds es m' n' e1 e2
    | dct _ => simp [dep] at h'
    | box _ => simp [dep] at h'
    | _ => rfl
  | .dct _, e, m, n, h, h' => by simp [dep] at h
  | .box _, e, m, n, h, h' => by simp [dep] at h
theorem eqvs_eqDs : ∀ (ds es : List D) (m n : Nat), deps ds = some m → deps es = some n → PyData.eqvAll (pyDs ds) (pyDs es) = eqDs ds es
  | [], [], _, _, _, _ => rfl
  | [], _ :: _, _, _, _, _ => rfl
  | _ :: _, [], _, _, _, _ => rfl
  | d :: ds, e :: es, m, n, h, h' => by
    obtain ⟨a, c, e1, e2, rfl⟩ := deps_cons h
    obtain ⟨a', c', e1', e2', rfl⟩ := deps_cons h'
    simp only [pyDs, PyData.eqvAll, eqDs]
    rw [eqv_eqD d e a a' e1 e1', eqvs_eqDs ds es c c' e2 e2']
end

section
variable {w : Wd} {xr : Nat → D → V → Prop} {X : Cx} {W : WX} {b : Bs} {g : Gh} {z : Z} {σ : St} {H : Hp} {Q : VK}

/-- a value that is read, in the heap as it is -/
theorem Rb.rpH (S : Sim w xr b g z σ H) {d : D} {v : V} (h : Rb w g H d v) : Rp H g.al d v := by
  cases d with
  | lst ds =>
    obtain ⟨a, vs, e, q, r⟩ := h
    simp only [Rp]
    exact ⟨a, vs, e, unbox_sub.rd q, Rps.mono S.sub (.refl _) _ _ r⟩
  | dct kvs =>
    obtain ⟨a, e, q⟩ := h
    simp only [Rp]
    refine ⟨a, e, ?_⟩
    rcases q with ⟨l, q, r⟩ | ⟨l, q, r⟩
    · exact .inl ⟨l, unbox_sub _ _ q, Rkv.mono S.sub (.refl _) _ _ r⟩
    · exact .inr ⟨l, unbox_sub _ _ q, Rkt.mono S.sub (.refl _) _ _ r⟩
  | _ => exact Rp.mono S.sub (.refl _) _ _ h
theorem snap_rp (S : Sim w xr b g z σ H) {d : D} {v : V} (h : Rb w g H d v) : Rp H g.al (snap z.os d) v := by
  cases d with
  | box i =>
    simp only [snap]
    split
    · rename_i ds hi
      obtain ⟨a, vs, e, q, r⟩ := rdL_of S (ds := ds) h (by simp [rdL, hi])
      simp only [Rp]
      exact ⟨a, vs, e, q, Rps.mono S.sub (.refl _) _ _ r⟩
    · exact h.rpH S
  | _ => exact h.rpH S
theorem shaped_of {d : D} {n : Nat} (h : (pyD d).canLay0 = true ∧ (pyD d).depth = n) (hn : n ≤ 60) : SeqAt.shaped (pyD d) = true := by
  unfold SeqAt.shaped
  rw [h.1, h.2]
  simp only [Bool.true_and, decide_eq_true_eq]
  omega

def rInS (neg : Bool) : R2 := fun x y H Q => ∃ i j, x = .str i ∧ y = .str j ∧ Q (.bl (if neg then !hasS j i else hasS j i)) H
theorem op_inS : OpR X (compareOp .In) (rInS false) := op_in_str
theorem op_notInS : OpR X (compareOp .NotIn) (rInS true) := op_notIn_str
def rInD (neg : Bool) : R2 := fun x y H Q => ∃ a o, y = .ref a ∧ DGet H a x o ∧ Q (.bl (if neg then !o.isSome else o.isSome)) H
theorem op_inD (hu : X.A.units + 1 < cLine) : OpR X (compareOp .In) (rInD false) := by
  rintro pins s σ H x y v u Q I rx ry ⟨a, o, rfl, h, q⟩
  cases ry
  exact d_in hu I h rx fun s' I' => ⟨.bl _, H, I', rfl, q⟩
theorem op_notInD (hu : X.A.units + 1 < cLine) : OpR X (compareOp .NotIn) (rInD true) := by
  rintro pins s σ H x y v u Q I rx ry ⟨a, o, rfl, h, q⟩
  cases ry
  exact d_notIn hu I h rx fun s' I' => ⟨.bl _, H, I', rfl, q⟩
def rCmp (K : PySem.W.Frag) : Cop → R2
  | .eq => rEqD K
  | .ne => rNeD K
  | .lt => rI0 fun i j => .bl (decide (i < j))
  | .le => rI0 fun i j => .bl (decide (i ≤ j))
  | .gt => rI0 fun i j => .bl (decide (j < i))
  | .ge => rI0 fun i j => .bl (decide (j ≤ i))
  | .isin => orR (rInS false) (orR (rIn K false) (rInD false))
  | .notin => orR (rInS true) (orR (rIn K true) (rInD true))
  | .is => orR (fun x y H Q => y = .non ∧ Q (.bl (decide (x = .non))) H) rIsB
  | .isnot => orR (fun x y H Q => y = .non ∧ Q (.bl (!decide (x = .non))) H) rNotB
def copO : Cop → CmpOp
  | .eq => .Eq
  | .ne => .NotEq
  | .lt => .Lt
  | .le => .LtE
  | .gt => .Gt
  | .ge => .GtE
  | .isin => .In
  | .notin => .NotIn
  | .is => .Is
  | .isnot => .IsNot
theorem op_cmp (hu : X.A.units + 64 < cLine) : ∀ o : Cop, OpR X (compareOp (copO o)) (rCmp X.K o)
  | .eq => op_eqD hu
  | .ne => op_neD hu
  | .lt => op_lt
  | .le => op_le
  | .gt => op_gt
  | .ge => op_ge
  | .isin => op_inS.or (op_in_seq.or (op_inD (by omega)))
  | .notin => op_notInS.or (op_notIn_seq.or (op_notInD (by omega)))
  | .is => op_isN.or op_isBl
  | .isnot => op_notN.or op_notBl

theorem flat_of {F : Hp} {al : List Addr} {d : D} {v : V} (h : Rp F al d v) (f : d.flat = true) : flatV v = true := by
  cases d <;> simp only [D.flat, Bool.false_eq_true] at f <;> simp only [Rp] at h
  · subst h; rfl
  · subst h; rfl
  · subst h; rfl
  · rw [h.1]; rfl
theorem flats_of {F : Hp} {al : List Addr} : ∀ {ds : List D} {vs : List V}, Rps F al ds vs → ds.all D.flat = true → vs.all flatV = true
  | [], vs, h, f => by simp only [Rps] at h; subst h; rfl
  | d :: ds, vs, h, f => by
    simp only [Rps] at h
    obtain ⟨v, r, rfl, h1, h2⟩ := h
    rw [List.all_cons, Bool.and_eq_true] at f ⊢
    exact ⟨flat_of h1 f.1, flats_of h2 f.2⟩
theorem eqV_of {F G : Hp} {al al' : List Addr} {d e : D} {v u : V} (h : Rp F al d v) (h' : Rp G al' e u) (f : d.flat = true) (f' : e.flat = true) : eqV v u = eqD d e := by
  cases d <;> simp only [D.flat, Bool.false_eq_true] at f <;> simp only [Rp] at h <;> cases e <;> simp only [D.flat, Bool.false_eq_true] at f' <;> simp only [Rp] at h' <;>
    first | (subst h; subst h'; rfl) | (obtain ⟨h, _⟩ := h; subst h; subst h'; rfl) | (obtain ⟨h', _⟩ := h'; subst h; subst h'; rfl) | skip
  rw [h.1, h'.1]
  simp only [eqV, eqD]
  rw [Bool.beq_eq_decide_eq]
theorem inV_of {F G : Hp} {al al' : List Addr} {e : D} {u : V} (h' : Rp G al' e u) (f' : e.flat = true) : ∀ {ds : List D} {vs : List V}, Rps F al ds vs → ds.all D.flat = true → inV u vs = ds.any fun d => eqD d e
  | [], vs, h, f => by simp only [Rps] at h; subst h; rfl
  | d :: ds, vs, h, f => by
    simp only [Rps] at h
    obtain ⟨v, r, rfl, h1, h2⟩ := h
    rw [List.all_cons, Bool.and_eq_true] at f
    have ih := inV_of h' f' h2 f.2
    unfold inV at ih ⊢
    rw [List.any_cons, List.any_cons, eqV_of h1 h' f.1 f', ih]
theorem keyOk_kD {x : D} (h : keyOk x = true) : ∃ k : Key, x = kD k := by
  cases x <;> simp only [keyOk, Bool.false_eq_true] at h
  · exact ⟨.inl _, rfl⟩
  · exact ⟨.inr _, rfl⟩
theorem kD_rp {F : Hp} {al : List Addr} {k : Key} {v : V} (h : Rp F al (kD k) v) : v = kV k := by
  cases k <;> simp only [kD, Rp] at h
  · exact h
  · exact h.1
theorem kD_eq (j k : Key) : eqD (kD j) (kD k) = decide (j = k) := by
  cases j <;> cases k <;> simp only [kD, eqD]
  · rw [key_ll]
  · simp
  · simp
  · rw [key_rr]
/-- a key that is an int or a text is looked for -/
theorem valV_of {F : Hp} {al : List Addr} (k : Key) : ∀ {kvs : List (D × D)} {l : List (Key × V)}, Rkv F al kvs l →
    match kvs.find? fun p => eqD p.1 (kD k) with
    | some p => ∃ v, valV l k = some v ∧ Rp F al p.2 v
    | none => valV l k = none
  | [], l, h => by simp only [Rkv] at h; subst h; rfl
  | (x, d) :: kvs, l, h => by
    simp only [Rkv] at h
    obtain ⟨kk, v, r, rfl, rfl, h1, h2⟩ := h
    have ih := valV_of k h2
    rw [List.find?_cons]
    by_cases e : kk = k
    · subst e
      rw [kD_eq, decide_eq_true rfl]
      exact ⟨v, by simp [valV], h1⟩
    · rw [kD_eq, decide_eq_false e]
      have e2 : valV ((kk, v) :: r) k = valV r k := by simp [valV, e]
      rw [e2]
      exact ih
theorem hasKey_of {F : Hp} {al : List Addr} {k : Key} {kvs : List (D × D)} {l : List (Key × V)} (h : Rkv F al kvs l) : (valV l k).isSome = hasKey (kD k) kvs := by
  have := valV_of k h
  unfold hasKey
  cases e : kvs.find? fun p => eqD p.1 (kD k) with
  | some p =>
    rw [e] at this
    obtain ⟨v, h1, _⟩ := this
    rw [h1]
    have hp := List.find?_some e
    exact (List.any_eq_true.mpr ⟨p, List.mem_of_find?_eq_some e, hp⟩).symm
  | none =>
    rw [e] at this
    rw [this]
    have := List.find?_eq_none.mp e
    refine (List.any_eq_false.mpr fun p hp => ?_).symm
    simpa using this p hp
end
end Vi

namespace Vi
open PySem L2

section
variable {w : Wd} {xr : Nat → D → V → Prop} {X : Cx} {W : WX} {b : Bs} {g : Gh} {z : Z} {σ : St} {H : Hp} {Q : VK}

theorem ofB_some {o : Option Bool} (k : PostE w xr W b g σ H Q (ofB z o)) (S : Sim w xr b g z σ H) : ∃ c, o = some c ∧ Q (.bl c) H := by
  cases o with
  | none => exact k.elim
  | some c => exact ⟨c, rfl, PostE.now S (rp_bl _ _) k⟩
theorem Rkt_keys {F : Hp} {al : List Addr} {kvs : List (D × D)} {l : List (List Key × V)} (h : Rkt F al kvs l) (f : (kvs.all fun p => keyOk p.1) = true) : False := by
  cases kvs with
  | nil => simp [Rkt] at h
  | cons p r =>
    obtain ⟨k, d⟩ := p
    simp only [Rkt] at h
    obtain ⟨kk, v, q, _, rfl, _⟩ := h
    rw [List.all_cons, Bool.and_eq_true] at f
    simp [kDs, keyOk] at f
/-- a dict by int and text keys, wherever it stands -/
theorem dct_in {x : D} {vx : V} {a : Addr} {kvs : List (D × D)} (rx : Rp g.F g.al x vx) (h : (∃ l, H a = some (.dK l) ∧ Rkv g.F g.al kvs l) ∨ (∃ l, H a = some (.dT l) ∧ Rkt g.F g.al kvs l))
    (hk : (keyOk x && kvs.all fun p => keyOk p.1) = true) : ∃ o, DGet H a vx o ∧ o.isSome = hasKey x kvs ∧ match getD kvs x with | some d => ∃ v, o = some v ∧ Rp g.F g.al d v | none => o = none := by
  rw [Bool.and_eq_true] at hk
  obtain ⟨k, rfl⟩ := keyOk_kD hk.1
  rcases h with ⟨l, q, r⟩ | ⟨l, q, r⟩
  · have e := kD_rp rx
    subst e
    refine ⟨_, DGet.k q, hasKey_of r, ?_⟩
    unfold getD
    rw [hk.1, hk.2]
    have := valV_of k r
    simp only [Bool.and_self, if_true]
    cases e : kvs.find? fun p => eqD p.1 (kD k) with
    | some p =>
      rw [e] at this
      obtain ⟨v, h1, h2⟩ := this
      exact ⟨v, h1, h2⟩
    | none => rw [e] at this; exact this
  · exact (Rkt_keys r hk.2).elim
theorem in_hr {neg : Bool} {x y : D} {vx vy : V} {c : Bool} (S : Sim w xr b g z σ H) (rx : Rb w g H x vx) (ry : Rb w g H y vy) (h : inD z.os x y = some c) (q : Q (.bl (if neg then !c else c)) H) :
    orR (rInS neg) (orR (rIn X.K neg) (rInD neg)) vx vy H Q := by
  have seq : ∀ (ds : List D) (a : Addr) (vs : List V), (SqL X.K H a vs ∨ SqT X.K H a vs) → Rps g.F g.al ds vs → (if (x.flat && ds.all D.flat) = true then some (ds.any fun d => eqD d x) else none) = some c → rIn X.K neg vx (.ref a) H Q := by
    intro ds a vs hs hr hc
    split at hc
    · rename_i hf
      rw [Bool.and_eq_true] at hf
      cases hc
      refine ⟨a, vs, rfl, hs, flat_of (rx.rpH S) hf.1, flats_of hr hf.2, ?_⟩
      rw [inV_of (rx.rpH S) hf.1 hr hf.2]
      cases neg <;> exact q
    · cases hc
  have dct : ∀ (kvs : List (D × D)) (a : Addr), ((∃ l, H a = some (.dK l) ∧ Rkv g.F g.al kvs l) ∨ (∃ l, H a = some (.dT l) ∧ Rkt g.F g.al kvs l)) → (if (keyOk x && kvs.all fun p => keyOk p.1) = true then some (hasKey x kvs) else none) = some c → rInD neg vx (.ref a) H Q := by
    intro kvs a hh hc
    split at hc
    · rename_i hk
      cases hc
      have rx' : Rp g.F g.al x vx := by
        rw [Bool.and_eq_true] at hk
        obtain ⟨k, rfl⟩ := keyOk_kD hk.1
        cases k <;> exact rx
      obtain ⟨o, h1, h2, _⟩ := dct_in rx' hh hk
      refine ⟨a, o, rfl, h1, ?_⟩
      rw [h2]
      cases neg <;> exact q
    · cases hc
  cases y with
  | str t =>
    obtain ⟨rfl, ht⟩ := ry.str
    simp only [inD] at h
    split at h
    · rename_i s
      obtain ⟨rfl, hs⟩ := rx.str
      cases h
      refine .inl ⟨s, t, rfl, rfl, ?_⟩
      cases neg <;> exact q
    · cases h
  | tup ds =>
    simp only [inD] at h
    obtain ⟨a, vs, rfl, r1, r2⟩ := ry.tup S
    exact .inr (.inl (seq ds a vs (.inr (SqT.of r1)) r2 h))
  | lst ds =>
    simp only [inD] at h
    obtain ⟨a, vs, rfl, r1, r2⟩ := ry
    exact .inr (.inl (seq ds a vs (.inl (.inl (unbox_sub.rd r1))) r2 h))
  | dct kvs =>
    simp only [inD] at h
    obtain ⟨a, rfl, r1⟩ := ry
    refine .inr (.inr (dct kvs a ?_ h))
    rcases r1 with ⟨l, r1, r2⟩ | ⟨l, r1, r2⟩
    · exact .inl ⟨l, unbox_sub _ _ r1, r2⟩
    · exact .inr ⟨l, unbox_sub _ _ r1, r2⟩
  | box i =>
    simp only [inD] at h
    have ry' : Rp g.F g.al (.box i) vy := ry
    simp only [Rp] at ry'
    obtain ⟨a, ha, rfl⟩ := ry'
    split at h
    · rename_i ds hi
      obtain ⟨a', ha', q'⟩ := S.boxAt hi
      rw [ha] at ha'; cases ha'
      obtain ⟨vs, q1, q2⟩ := q'
      exact .inr (.inl (seq ds a vs (.inl (SqL.of q1)) q2 h))
    · rename_i kvs hi
      obtain ⟨a', ha', q'⟩ := S.boxAt hi
      rw [ha] at ha'; cases ha'
      exact .inr (.inr (dct kvs a q' h))
    · cases h
  | _ => simp [inD] at h
theorem cmp_hr (o : Cop) : ∀ b g z σ H Q x y vx vy, Sim w xr b g z σ H → Rb w g H x vx → Rb w g H y vy → PostE w xr W b g σ H Q (ofB z (cmpD o z.os x y)) → rCmp X.K o vx vy H Q := by
  intro b g z σ H Q x y vx vy S rx ry k
  obtain ⟨c, hc, q⟩ := ofB_some k S
  cases o with
  | eq =>
    simp only [cmpD] at hc
    split at hc
    · rename_i m n h1 h2
      split at hc
      · rename_i hle
        cases hc
        obtain ⟨p1, p2, p3⟩ := dp_of (K := X.K) (Sub.refl H) _ _ _ (snap_rp S rx) h1
        obtain ⟨p4, p5, p6⟩ := dp_of (K := X.K) (Sub.refl H) _ _ _ (snap_rp S ry) h2
        refine ⟨_, _, p1, p4, shaped_of ⟨p2, p3⟩ hle.1, shaped_of ⟨p5, p6⟩ hle.2, ?_⟩
        rw [eqv_eqD _ _ _ _ h1 h2]
        exact q
      · cases hc
    · cases hc
  | ne =>
    simp only [cmpD] at hc
    split at hc
    · rename_i m n h1 h2
      split at hc
      · rename_i hle
        cases hc
        obtain ⟨p1, p2, p3⟩ := dp_of (K := X.K) (Sub.refl H) _ _ _ (snap_rp S rx) h1
        obtain ⟨p4, p5, p6⟩ := dp_of (K := X.K) (Sub.refl H) _ _ _ (snap_rp S ry) h2
        refine ⟨_, _, p1, p4, shaped_of ⟨p2, p3⟩ hle.1, shaped_of ⟨p5, p6⟩ hle.2, ?_⟩
        rw [eqv_eqD _ _ _ _ h1 h2]
        exact q
      · cases hc
    · cases hc
  | lt | le | gt | ge =>
    simp only [cmpD] at hc
    split at hc
    · cases hc
      rw [rx.int, ry.int]
      exact ⟨_, _, rfl, rfl, q⟩
    · cases hc
  | isin => exact in_hr (neg := false) S rx ry hc q
  | notin =>
    simp only [cmpD, Option.map_eq_some_iff] at hc
    obtain ⟨c', h1, rfl⟩ := hc
    exact in_hr (neg := true) S rx ry h1 q
  | is =>
    simp only [cmpD] at hc
    split at hc
    · cases hc
      rw [rx.non, ry.non]
      exact .inl ⟨rfl, q⟩
    · rename_i x' hne
      rw [ry.non]
      refine .inl ⟨rfl, ?_⟩
      cases hc
      have : vx ≠ .non := by
        intro e; subst e
        have := rx.rpH S
        cases x <;> simp [Rp] at this
        exact hne rfl
      rw [decide_eq_false this]
      exact q
    · cases hc
      rw [rx.bl, ry.bl]
      rename_i a c
      refine .inr ⟨a, c, rfl, rfl, ?_⟩
      rw [← Bool.beq_eq_decide_eq]; exact q
    · cases hc
  | isnot =>
    simp only [cmpD] at hc
    split at hc
    · cases hc
      rw [rx.non, ry.non]
      exact .inl ⟨rfl, q⟩
    · rename_i x' hne
      rw [ry.non]
      refine .inl ⟨rfl, ?_⟩
      cases hc
      have : vx ≠ .non := by
        intro e; subst e
        have := rx.rpH S
        cases x <;> simp [Rp] at this
        exact hne rfl
      rw [decide_eq_false this]
      exact q
    · cases hc
      rw [rx.bl, ry.bl]
      rename_i a c
      refine .inr ⟨a, c, rfl, rfl, ?_⟩
      rw [← Bool.beq_eq_decide_eq]; exact q
    · cases hc
end
end Vi

namespace Vi
open PySem L2

def PostT (w : Wd) (xr : Nat → D → V → Prop) (W : WX) (b : Bs) (g : Gh) (σ : St) (H : Hp) (Q : Bool → Hp → Prop) : R Z (D × Bool) → Prop
  | .ok a z' => match a.1 with
    | .bl c => ∀ g' H', Stp g H g' H' → Sim w xr b g' z' σ H' → Q c H'
    | _ => False
  | .exc c x z' => ∀ g' cls dd H', Stp g H g' H' → Sim w xr b g' z' σ H' → XR w.cad g' c x cls dd H' → W cls dd σ H'
  | .stuck => False
/-- e as a test -/
def SndT (w : Wd) (xr : Nat → D → V → Prop) (X : Cx) (W : WX) (e : Expr) (f : Z → R Z (D × Bool)) : Prop :=
  ∃ t, PT X e t ∧ ∀ b g z σ H Q, Sim w xr b g z σ H → PostT w xr W b g σ H Q (f z) → t σ H Q

section
variable {w : Wd} {xr : Nat → D → V → Prop} {X : Cx} {W : WX} {b : Bs} {g g2 : Gh} {z z2 : Z} {σ : St} {H H2 : Hp}

theorem PostT.step {Q : Bool → Hp → Prop} {r : R Z (D × Bool)} (st : Stp g H g2 H2) (k : PostT w xr W b g σ H Q r) : PostT w xr W b g2 σ H2 Q r := by
  cases r with
  | ok a z' =>
    obtain ⟨d, fr⟩ := a
    cases d with
    | bl c => exact fun g' H' s' S' => k g' H' (st.trans s') S'
    | _ => exact k.elim
  | exc c x z' => exact fun g' cls dd H' s' S' t => k g' cls dd H' (st.trans s') S' t
  | stuck => exact k.elim
/-- a test by its value -/
theorem PostT.toE {Q : Bool → Hp → Prop} {r : R Z (D × Bool)} (k : PostT w xr W b g σ H Q r) : PostE w xr W b g σ H (fun x H' => ∃ c, x = .bl c ∧ Q c H') r := by
  cases r with
  | ok a z' =>
    obtain ⟨d, fr⟩ := a
    cases d with
    | bl c =>
      intro g' v H' st S' tm
      have : v = .bl c := by
        unfold Tmp at tm
        rw [if_neg (by simp [D.cell])] at tm
        simpa [Rp] using tm
      exact ⟨c, this, k g' H' st S'⟩
    | _ => exact k.elim
  | exc c x z' => exact k
  | stuck => exact k
theorem SndE.T {e : Expr} {f : Z → R Z (D × Bool)} (h : SndE w xr X W e f) (he : ∀ whole, isTrue e X.env whole = (do let v ← whole; standAt e.pos; holding [v] (truthy v))) : SndT w xr X W e f := by
  obtain ⟨t, p, q⟩ := h
  exact ⟨_, pt_val p he, fun b g z σ H Q S k => q b g z σ H _ S k.toE⟩
theorem SndB.T {e : Expr} {f : Z → R Z (D × Bool)} (h : SndB w xr X W e fun z => fst1 (f z)) (he : ∀ whole, isTrue e X.env whole = (do let v ← whole; standAt e.pos; holding [v] (truthy v))) : SndT w xr X W e f := by
  obtain ⟨t, p, q⟩ := h
  refine ⟨_, pt_val p he, fun b g z σ H Q S k => q b g z σ H _ S ?_⟩
  simp only [fst1]
  cases r : f z with
  | ok a z' =>
    rw [r] at k
    obtain ⟨d, fr⟩ := a
    cases d with
    | bl c =>
      intro g' v H' st S' rb
      exact ⟨c, Rb.bl rb, k g' H' st S'⟩
    | _ => exact k.elim
  | exc c x z' => rw [r] at k; exact k
  | stuck => rw [r] at k; exact k
theorem nomarks (e : Expr) (h : ∀ es k p, e ≠ .Set es k p) (op : CmpOp) : behindInMarks op e = false := by
  cases e <;> first | rfl | exact absurd rfl (h _ _ _)
theorem s_cmp {cf : CF} {o : Cop} {ea eb : Expr} {ia ib : E} {pos : Pos} (hu : X.A.units + 64 < cLine) (hm : ∀ op, behindInMarks op eb = false) (ha : SndB w xr X W ea fun z => fst1 (evalE cf ia z)) (hb : SndB w xr X W eb fun z => fst1 (evalE cf ib z)) :
    SndP w xr W (fun t => PE X (.Compare ea [copO o] [eb] pos) t ∧ PT X (.Compare ea [copO o] [eb] pos) (tTest t)) (evalE cf (.cmp o ia ib)) := by
  have := s_two (w := w) (xr := xr) (W := W) (P := fun t => PE X (.Compare ea [copO o] [eb] pos) t ∧ PT X (.Compare ea [copO o] [eb] pos) (tTest t)) (r := rCmp X.K o) (G := fun z x y => ofB z (cmpD o z.os x y)) ha hb
    (fun ta tb pa pb => ⟨pe_cmpR (op_cmp hu o) pa pb (hm _), pt_cmpR (op_cmp hu o) pa pb (hm _)⟩) (cmp_hr o)
  simpa only [evalE] using this
theorem SndP.E {e : Expr} {f : Z → R Z (D × Bool)} (h : SndP w xr W (fun t => PE X e t ∧ PT X e (tTest t)) f) : SndE w xr X W e f := by
  obtain ⟨t, p, q⟩ := h
  exact ⟨t, p.1, q⟩
theorem SndP.T {e : Expr} {f : Z → R Z (D × Bool)} (h : SndP w xr W (fun t => PE X e t ∧ PT X e (tTest t)) f) : SndT w xr X W e f := by
  obtain ⟨t, p, q⟩ := h
  exact ⟨_, p.2, fun b g z σ H Q S k => q b g z σ H _ S k.toE⟩
theorem PostB.ofE {Q : VK} {d : D} {v : V} (S : Sim w xr b g z σ H) (h : Rp g.F g.al d v) (k : PostE w xr W b g σ H Q (.ok (d, false) z)) : Q v H := k.now S h
/-- a < b < c -/
theorem s_chain {cf : CF} {o o' : Cop} {ea eb ec : Expr} {ia ib ic : E} {pos : Pos} (hu : X.A.units + 64 < cLine) (hm : lastMarks [copO o, copO o'] [eb, ec] = false)
    (ha : SndB w xr X W ea fun z => fst1 (evalE cf ia z)) (hb : SndB w xr X W eb fun z => fst1 (evalE cf ib z)) (hc : SndB w xr X W ec fun z => fst1 (evalE cf ic z)) :
    SndP w xr W (fun t => PE X (.Compare ea [copO o, copO o'] [eb, ec] pos) t ∧ PT X (.Compare ea [copO o, copO o'] [eb, ec] pos) (tTest t)) (evalE cf (.chain o o' ia ib ic)) := by
  obtain ⟨ta, pa, qa⟩ := ha
  obtain ⟨tb, pb, qb⟩ := hb
  obtain ⟨tc, pc, qc⟩ := hc
  refine ⟨_, ⟨pe_chain (op_cmp hu o) (op_cmp hu o') pa pb pc hm, pt_chain (op_cmp hu o) (op_cmp hu o') pa pb pc hm⟩, fun b g z σ H Q S k => qa b g z σ H _ S ?_⟩
  simp only [evalE] at k
  simp only [fst1]
  cases ra : evalE cf ia z with
  | stuck => rw [ra] at k; exact k
  | exc c x z' => rw [ra] at k; exact k
  | ok x z1 =>
    rw [ra] at k
    intro g1 vx H1 st1 S1 rx
    refine qb b g1 z1 σ H1 _ S1 ?_
    have k1 := PostE.step S1 st1 k
    simp only [fst1]
    simp only [R.bind_ok] at k1
    cases rb : evalE cf ib z1 with
    | stuck => rw [rb] at k1; exact k1
    | exc c x z' => rw [rb] at k1; exact k1
    | ok y z2 =>
      rw [rb] at k1
      intro g2 vy H2 st2 S2 ry
      have k2 := PostE.step S2 st2 k1
      simp only [R.bind_ok] at k2
      refine cmp_hr (W := W) o b g2 z2 σ H2 _ x.1 y.1 vx vy S2 (rx.mono st2) ry ?_
      cases hcm : cmpD o z2.os x.1 y.1 with
      | none => rw [hcm] at k2; exact k2.elim
      | some c =>
        rw [hcm] at k2
        intro g3 v H3 st3 S3 tm
        have hv : v = .bl c := by
          have := tm.rp
          simpa [Rp] using this
        refine ⟨c, hv, ?_⟩
        have k3 := PostE.step S3 st3 k2
        cases c with
        | false =>
          rw [if_neg Bool.false_ne_true]
          exact k3.now S3 (rp_bl _ _)
        | true =>
          rw [if_pos rfl]
          refine qc b g3 z2 σ H3 _ S3 ?_
          simp only [fst1]
          simp only at k3
          cases rc : evalE cf ic z2 with
          | stuck => rw [rc] at k3; exact k3
          | exc c x z' => rw [rc] at k3; exact k3
          | ok u z4 =>
            rw [rc] at k3
            intro g4 vu H4 st4 S4 ru
            have k4 := PostE.step S4 st4 k3
            exact cmp_hr (W := W) o' b g4 z4 σ H4 Q y.1 u.1 vy vu S4 ((ry.mono st3).mono st4) ru k4

/-! ### and, or, not, if: as tests -/
theorem t_and {cf : CF} {ea : Expr} {rest : List Expr} {ia ib : E} {pos : Pos} {eb : Expr} (ha : SndT w xr X W ea (evalE cf ia))
    (hb : ∃ t, PW X (.BoolOp .And (eb :: rest) pos) t ∧ ∀ b g z σ H Q, Sim w xr b g z σ H → PostT w xr W b g σ H Q (evalE cf ib z) → t σ H Q) :
    ∃ t, PW X (.BoolOp .And (ea :: eb :: rest) pos) t ∧ ∀ b g z σ H Q, Sim w xr b g z σ H → PostT w xr W b g σ H Q (evalE cf (.and ia ib) z) → t σ H Q := by
  obtain ⟨ta, pa, qa⟩ := ha
  obtain ⟨tb, pb, qb⟩ := hb
  refine ⟨_, pw_and pa pb, fun b g z σ H Q S k => qa b g z σ H _ S ?_⟩
  simp only [evalE] at k
  cases ra : evalE cf ia z with
  | stuck => rw [ra] at k; exact k
  | exc c x z' => rw [ra] at k; exact k
  | ok x z1 =>
    rw [ra] at k
    obtain ⟨d, fr⟩ := x
    cases d with
    | bl c =>
      intro g1 H1 st1 S1
      have k1 := PostT.step st1 k
      cases c with
      | true => rw [if_pos rfl]; exact qb b g1 z1 σ H1 Q S1 k1
      | false => rw [if_neg Bool.false_ne_true]; exact k1 g1 H1 (.refl _ _) S1
    | _ => exact k.elim
theorem t_or {cf : CF} {ea : Expr} {rest : List Expr} {ia ib : E} {pos : Pos} {eb : Expr} (ha : SndT w xr X W ea (evalE cf ia))
    (hb : ∃ t, PW X (.BoolOp .Or (eb :: rest) pos) t ∧ ∀ b g z σ H Q, Sim w xr b g z σ H → PostT w xr W b g σ H Q (evalE cf ib z) → t σ H Q) :
    ∃ t, PW X (.BoolOp .Or (ea :: eb :: rest) pos) t ∧ ∀ b g z σ H Q, Sim w xr b g z σ H → PostT w xr W b g σ H Q (evalE cf (.or ia ib) z) → t σ H Q := by
  obtain ⟨ta, pa, qa⟩ := ha
  obtain ⟨tb, pb, qb⟩ := hb
  refine ⟨_, pw_or pa pb, fun b g z σ H Q S k => qa b g z σ H _ S ?_⟩
  simp only [evalE] at k
  cases ra : evalE cf ia z with
  | stuck => rw [ra] at k; exact k
  | exc c x z' => rw [ra] at k; exact k
  | ok x z1 =>
    rw [ra] at k
    obtain ⟨d, fr⟩ := x
    cases d with
    | bl c =>
      intro g1 H1 st1 S1
      have k1 := PostT.step st1 k
      cases c with
      | true => rw [if_pos rfl]; exact k1 g1 H1 (.refl _ _) S1
      | false => rw [if_neg Bool.false_ne_true]; exact qb b g1 z1 σ H1 Q S1 k1
    | _ => exact k.elim
theorem t_not {cf : CF} {ea : Expr} {ia : E} {pos : Pos} (ha : SndT w xr X W ea (evalE cf ia)) : SndT w xr X W (.UnaryOp .Not ea pos) (evalE cf (.not ia)) := by
  obtain ⟨ta, pa, qa⟩ := ha
  refine ⟨_, pt_not pa, fun b g z σ H Q S k => qa b g z σ H _ S ?_⟩
  simp only [evalE] at k
  cases ra : evalE cf ia z with
  | stuck => rw [ra] at k; exact k
  | exc c x z' => rw [ra] at k; exact k
  | ok x z1 =>
    rw [ra] at k
    obtain ⟨d, fr⟩ := x
    cases d with
    | bl c => exact k
    | _ => exact k.elim
/-! the same as values -/
theorem s_and {cf : CF} {ea eb : Expr} {rest : List Expr} {ia ib : E} {pos : Pos} (ha : SndE w xr X W ea (evalE cf ia)) (hb : SndE w xr X W (.BoolOp .And (eb :: rest) pos) (evalE cf ib)) :
    SndE w xr X W (.BoolOp .And (ea :: eb :: rest) pos) (evalE cf (.and ia ib)) := by
  obtain ⟨ta, pa, qa⟩ := ha
  obtain ⟨tb, pb, qb⟩ := hb
  refine ⟨_, pe_and pa pb, fun b g z σ H Q S k => qa b g z σ H _ S ?_⟩
  simp only [evalE] at k
  cases ra : evalE cf ia z with
  | stuck => rw [ra] at k; exact k
  | exc c x z' => rw [ra] at k; exact k
  | ok x z1 =>
    rw [ra] at k
    obtain ⟨d, fr⟩ := x
    cases d with
    | bl c =>
      intro g1 v H1 st1 S1 tm
      have hv : v = .bl c := by
        unfold Tmp at tm; rw [if_neg (by simp [D.cell])] at tm; simpa [Rp] using tm
      have k1 := PostE.step S1 st1 k
      refine ⟨c, hv, ?_⟩
      cases c with
      | true => rw [if_pos rfl]; exact qb b g1 z1 σ H1 Q S1 k1
      | false => rw [if_neg Bool.false_ne_true]; exact k1.now S1 (rp_bl _ _)
    | _ => exact k.elim
theorem s_or {cf : CF} {ea eb : Expr} {rest : List Expr} {ia ib : E} {pos : Pos} (ha : SndE w xr X W ea (evalE cf ia)) (hb : SndE w xr X W (.BoolOp .Or (eb :: rest) pos) (evalE cf ib)) :
    SndE w xr X W (.BoolOp .Or (ea :: eb :: rest) pos) (evalE cf (.or ia ib)) := by
  obtain ⟨ta, pa, qa⟩ := ha
  obtain ⟨tb, pb, qb⟩ := hb
  refine ⟨_, pe_or pa pb, fun b g z σ H Q S k => qa b g z σ H _ S ?_⟩
  simp only [evalE] at k
  cases ra : evalE cf ia z with
  | stuck => rw [ra] at k; exact k
  | exc c x z' => rw [ra] at k; exact k
  | ok x z1 =>
    rw [ra] at k
    obtain ⟨d, fr⟩ := x
    cases d with
    | bl c =>
      intro g1 v H1 st1 S1 tm
      have hv : v = .bl c := by
        unfold Tmp at tm; rw [if_neg (by simp [D.cell])] at tm; simpa [Rp] using tm
      have k1 := PostE.step S1 st1 k
      refine ⟨c, hv, ?_⟩
      cases c with
      | true => rw [if_pos rfl]; exact k1.now S1 (rp_bl _ _)
      | false => rw [if_neg Bool.false_ne_true]; exact qb b g1 z1 σ H1 Q S1 k1
    | _ => exact k.elim
theorem s_bone {ea : Expr} {op : BoolOp} {pos : Pos} {f : Z → R Z (D × Bool)} (ha : SndE w xr X W ea f) : SndE w xr X W (.BoolOp op [ea] pos) f := by
  obtain ⟨t, p, q⟩ := ha
  exact ⟨t, pe_one p, q⟩
theorem s_not {cf : CF} {ea : Expr} {ia : E} {pos : Pos} (ha : SndE w xr X W ea (evalE cf ia)) : SndE w xr X W (.UnaryOp .Not ea pos) (evalE cf (.not ia)) := by
  obtain ⟨ta, pa, qa⟩ := ha
  refine ⟨_, pe_not pa, fun b g z σ H Q S k => qa b g z σ H _ S ?_⟩
  simp only [evalE] at k
  cases ra : evalE cf ia z with
  | stuck => rw [ra] at k; exact k
  | exc c x z' => rw [ra] at k; exact k
  | ok x z1 =>
    rw [ra] at k
    obtain ⟨d, fr⟩ := x
    cases d with
    | bl c =>
      intro g1 v H1 st1 S1 tm
      have hv : v = .bl c := by
        unfold Tmp at tm; rw [if_neg (by simp [D.cell])] at tm; simpa [Rp] using tm
      exact ⟨c, hv, (PostE.step S1 st1 k).now S1 (rp_bl _ _)⟩
    | _ => exact k.elim
theorem s_ite {cf : CF} {ec ea eb : Expr} {ic ia ib : E} {pos : Pos} (hc : SndT w xr X W ec (evalE cf ic)) (ha : SndE w xr X W ea (evalE cf ia)) (hb : SndE w xr X W eb (evalE cf ib)) :
    SndE w xr X W (.IfExp ec ea eb pos) (evalE cf (.ite ic ia ib)) := by
  obtain ⟨tc, pc, qc⟩ := hc
  obtain ⟨ta, pa, qa⟩ := ha
  obtain ⟨tb, pb, qb⟩ := hb
  refine ⟨_, pe_ifExp pc pa pb, fun b g z σ H Q S k => qc b g z σ H _ S ?_⟩
  simp only [evalE] at k
  cases ra : evalE cf ic z with
  | stuck => rw [ra] at k; exact k
  | exc c x z' => rw [ra] at k; exact k
  | ok x z1 =>
    rw [ra] at k
    obtain ⟨d, fr⟩ := x
    cases d with
    | bl c =>
      intro g1 H1 st1 S1
      have k1 := PostE.step S1 st1 k
      cases c with
      | true => rw [if_pos rfl]; exact qa b g1 z1 σ H1 Q S1 k1
      | false => rw [if_neg Bool.false_ne_true]; exact qb b g1 z1 σ H1 Q S1 k1
    | _ => exact k.elim
theorem s_neg {cf : CF} {ea : Expr} {ia : E} {pos : Pos} (ha : SndB w xr X W ea fun z => fst1 (evalE cf ia z)) : SndE w xr X W (.UnaryOp .USub ea pos) (evalE cf (.neg ia)) := by
  have : SndE w xr X W (.UnaryOp .USub ea pos) _ := s_one (w := w) (xr := xr) (W := W) (P := PE X (.UnaryOp .USub ea pos)) (r := rU fun i => .int (-i)) (G := fun z x => negZ z x) ha (fun ta pa => pe_un un_neg pa) ?_
  · simpa only [evalE] using this
  · intro b g z σ H Q x vx S rx k
    unfold negZ at k
    split at k
    · rw [rx.int]; exact ⟨_, rfl, k.now S (rp_int _ _)⟩
    · exact k.elim
end
end Vi

namespace Vi
open PySem L2

section
variable {w : Wd} {xr : Nat → D → V → Prop} {X : Cx} {W : WX} {b : Bs} {g g2 : Gh} {z z2 : Z} {σ : St} {H H2 : Hp}

/-! ### arguments -/
def Rbs (w : Wd) (g : Gh) (H : Hp) : List D → List V → Prop
  | [], vs => vs = []
  | d :: ds, vs => ∃ v r, vs = v :: r ∧ Rb w g H d v ∧ Rbs w g H ds r
theorem Rbs.mono {g' : Gh} {H' : Hp} (s : Stp g H g' H') : ∀ {ds : List D} {vs : List V}, Rbs w g H ds vs → Rbs w g' H' ds vs
  | [], vs, h => h
  | d :: ds, vs, h => by
    obtain ⟨v, r, e, h1, h2⟩ := h
    exact ⟨v, r, e, h1.mono s, h2.mono s⟩
def PostA (w : Wd) (xr : Nat → D → V → Prop) (W : WX) (b : Bs) (g : Gh) (σ : St) (H : Hp) (Q : List V → Hp → Prop) : R Z (List D) → Prop
  | .ok ds z' => ∀ g' vs H', Stp g H g' H' → Sim w xr b g' z' σ H' → Rbs w g' H' ds vs → Q vs H'
  | .exc c x z' => ∀ g' cls dd H', Stp g H g' H' → Sim w xr b g' z' σ H' → XR w.cad g' c x cls dd H' → W cls dd σ H'
  | .stuck => False
def PostAF (w : Wd) (xr : Nat → D → V → Prop) (W : WX) (b : Bs) (g : Gh) (σ : St) (H : Hp) (Q : List V → Hp → Prop) : R Z (List D) → Prop
  | .ok ds z' => ∀ g' vs H', Stp g H g' H' → Sim w xr b g' z' σ H' → Rps g'.F g'.al ds vs → Q vs H'
  | .exc c x z' => ∀ g' cls dd H', Stp g H g' H' → Sim w xr b g' z' σ H' → XR w.cad g' c x cls dd H' → W cls dd σ H'
  | .stuck => False
theorem PostA.step {Q : List V → Hp → Prop} {r : R Z (List D)} (st : Stp g H g2 H2) (k : PostA w xr W b g σ H Q r) : PostA w xr W b g2 σ H2 Q r := by
  cases r with
  | ok a z' => exact fun g' v H' s' S' t => k g' v H' (st.trans s') S' t
  | exc c x z' => exact fun g' cls dd H' s' S' t => k g' cls dd H' (st.trans s') S' t
  | stuck => exact k.elim
theorem PostAF.step {Q : List V → Hp → Prop} {r : R Z (List D)} (st : Stp g H g2 H2) (k : PostAF w xr W b g σ H Q r) : PostAF w xr W b g2 σ H2 Q r := by
  cases r with
  | ok a z' => exact fun g' v H' s' S' t => k g' v H' (st.trans s') S' t
  | exc c x z' => exact fun g' cls dd H' s' S' t => k g' cls dd H' (st.trans s') S' t
  | stuck => exact k.elim
def SndA (w : Wd) (xr : Nat → D → V → Prop) (X : Cx) (W : WX) (es : List Expr) (f : Z → R Z (List D)) : Prop :=
  ∃ t, PA X es t ∧ ∀ b g z σ H Q, Sim w xr b g z σ H → PostA w xr W b g σ H Q (f z) → t σ H Q
def SndAF (w : Wd) (xr : Nat → D → V → Prop) (X : Cx) (W : WX) (es : List Expr) (f : Z → R Z (List D)) : Prop :=
  ∃ t, PA X es t ∧ ∀ b g z σ H Q, Sim w xr b g z σ H → PostAF w xr W b g σ H Q (f z) → t σ H Q
def Expr.star : Expr → Bool
  | .Starred .. => true
  | _ => false
theorem star_ok {e : Expr} (h : Expr.star e = false) (es : List Expr) (env : Env) : starEach (e :: es) env = (false, eval e env) :: starEach es env := by
  cases e <;> first | rfl | (simp [Expr.star] at h)
theorem a_nil {cf : CF} : SndA w xr X W [] (evalEs cf []) := ⟨_, pa_nil, fun b g z σ H Q S k => k g [] H (.refl _ _) S rfl⟩
theorem af_nil {cf : CF} : SndAF w xr X W [] (evalEs cf []) := ⟨_, pa_nil, fun b g z σ H Q S k => k g [] H (.refl _ _) S (by simp [Rps])⟩
theorem a_cons {cf : CF} {e : Expr} {es : List Expr} {i : E} {is : List E} (hs : Expr.star e = false) (he : SndB w xr X W e fun z => fst1 (evalE cf i z)) (hes : SndA w xr X W es (evalEs cf is)) :
    SndA w xr X W (e :: es) (evalEs cf (i :: is)) := by
  obtain ⟨ta, pa, qa⟩ := he
  obtain ⟨tb, pb, qb⟩ := hes
  refine ⟨_, pa_cons pa pb (star_ok hs _ _), fun b g z σ H Q S k => qa b g z σ H _ S ?_⟩
  simp only [evalEs] at k
  simp only [fst1]
  cases ra : evalE cf i z with
  | stuck => rw [ra] at k; exact k
  | exc c x z' => rw [ra] at k; exact k
  | ok x z1 =>
    rw [ra] at k
    intro g1 v H1 st1 S1 rx
    refine qb b g1 z1 σ H1 _ S1 ?_
    have k1 := PostA.step st1 k
    simp only [R.bind_ok] at k1
    cases rb : evalEs cf is z1 with
    | stuck => rw [rb] at k1; exact k1
    | exc c x z' => rw [rb] at k1; exact k1
    | ok y z2 =>
      rw [rb] at k1
      intro g2 vs H2 st2 S2 ry
      exact k1 g2 (v :: vs) H2 st2 S2 ⟨v, vs, rfl, rx.mono st2, ry⟩
theorem af_cons {cf : CF} {e : Expr} {es : List Expr} {i : E} {is : List E} (hs : Expr.star e = false) (he : SndF w xr X W e fun z => fst1 (evalE cf i z)) (hes : SndAF w xr X W es (evalEs cf is)) :
    SndAF w xr X W (e :: es) (evalEs cf (i :: is)) := by
  obtain ⟨ta, pa, qa⟩ := he
  obtain ⟨tb, pb, qb⟩ := hes
  refine ⟨_, pa_cons pa pb (star_ok hs _ _), fun b g z σ H Q S k => qa b g z σ H _ S ?_⟩
  simp only [evalEs] at k
  simp only [fst1]
  cases ra : evalE cf i z with
  | stuck => rw [ra] at k; exact k
  | exc c x z' => rw [ra] at k; exact k
  | ok x z1 =>
    rw [ra] at k
    intro g1 v H1 st1 S1 rx
    refine qb b g1 z1 σ H1 _ S1 ?_
    have k1 := PostAF.step st1 k
    simp only [R.bind_ok] at k1
    cases rb : evalEs cf is z1 with
    | stuck => rw [rb] at k1; exact k1
    | exc c x z' => rw [rb] at k1; exact k1
    | ok y z2 =>
      rw [rb] at k1
      intro g2 vs H2 st2 S2 ry
      exact k1 g2 (v :: vs) H2 st2 S2 (Rps.cons (Rp.mono st2.F st2.al _ _ rx) ry)
/-! ### tuples and lists written -/
theorem s_tup {cf : CF} {es : List Expr} {is : List E} {k0 : Nat} {pos : Pos} (hl : es.length ≤ 1000) (hi : is.length = es.length) (h : SndAF w xr X W es (evalEs cf is)) (hlen : ∀ z ds z', evalEs cf is z = .ok ds z' → ds.length = is.length) :
    SndE w xr X W (.Tuple es k0 pos) (evalE cf (.tup is)) := by
  obtain ⟨t, p, q⟩ := h
  refine ⟨_, pe_tup p, fun b g z σ H Q S k => q b g z σ H _ S ?_⟩
  simp only [evalE] at k
  cases r : evalEs cf is z with
  | stuck => rw [r] at k; exact k
  | exc c x z' => rw [r] at k; exact k
  | ok ds z1 =>
    rw [r] at k
    intro g1 vs H1 st1 S1 rs
    have := hlen _ _ _ r
    refine ⟨by rw [Rps.length rs, PySem.sizeLine_eq]; omega, fun p hp => ?_⟩
    exact PostE.tup S1 hp rs (PostE.step S1 st1 k)
theorem s_lst {cf : CF} {es : List Expr} {is : List E} {pos : Pos} (hl : es.length ≤ 1000) (hi : is.length = es.length) (h : SndAF w xr X W es (evalEs cf is)) (hlen : ∀ z ds z', evalEs cf is z = .ok ds z' → ds.length = is.length) :
    SndE w xr X W (.List es pos) (evalE cf (.lst is)) := by
  obtain ⟨t, p, q⟩ := h
  refine ⟨_, pe_lst p, fun b g z σ H Q S k => q b g z σ H _ S ?_⟩
  simp only [evalE] at k
  cases r : evalEs cf is z with
  | stuck => rw [r] at k; exact k
  | exc c x z' => rw [r] at k; exact k
  | ok ds z1 =>
    rw [r] at k
    intro g1 vs H1 st1 S1 rs
    have := hlen _ _ _ r
    refine ⟨by rw [Rps.length rs, PySem.sizeLine_eq]; omega, fun p hp => ?_⟩
    exact PostE.new S1 hp rfl (cel_lst rs) (PostE.step S1 st1 k)
theorem evalEs_length {cf : CF} : ∀ (is : List E) (z : Z) (ds : List D) (z' : Z), evalEs cf is z = .ok ds z' → ds.length = is.length
  | [], z, ds, z', h => by simp only [evalEs] at h; cases h; rfl
  | i :: is, z, ds, z', h => by
    simp only [evalEs] at h
    cases r : evalE cf i z with
    | stuck => rw [r] at h; cases h
    | exc c x z1 => rw [r] at h; cases h
    | ok x z1 =>
      rw [r] at h
      simp only [R.bind_ok] at h
      cases r2 : evalEs cf is z1 with
      | stuck => rw [r2] at h; cases h
      | exc c x z2 => rw [r2] at h; cases h
      | ok xs z2 =>
        rw [r2] at h
        simp only [R.bind_ok] at h
        cases h
        rw [List.length_cons, List.length_cons, evalEs_length is z1 xs _ r2]

/-! ### items -/
def rIxD : R2 := fun x y H Q => ∃ a v, x = .ref a ∧ DGet H a y (some v) ∧ Q v H
theorem ix_dict (hu : X.A.units + 1 < cLine) : IxR X rIxD := by
  rintro value slice pins s σ H x y v u Q I rx ry ⟨a, v', rfl, h, q⟩ hs
  cases rx
  exact PyProof.Rows.tail_any (dict_typeIs I h) PySem.F.slot_dict_getitem.lookup (d_getItem hu I h ry fun w' s' I' r' => ⟨v', H, I', r', q⟩) hs
def rIxA (K : PySem.W.Frag) : R2 := orR (rIx K) rIxD
theorem atI_rps {F : Hp} {al : List Addr} {ds : List D} {vs : List V} {i : Int} {d : D} (h : Rps F al ds vs) (e : atI ds i = some d) : ∃ v, atI vs i = some v ∧ Rp F al d v := by
  unfold atI at e ⊢
  rw [Rps.length h]
  cases hj : ixN ds.length i with
  | none => rw [hj] at e; cases e
  | some j =>
    rw [hj] at e
    exact Rps.get h e
theorem strOk_sign {s : Str} {c : Nat} {k : Int} (h : PyData.strOk s = true) (e : atI s.cps.toList k = some c) : PyData.strOk ⟨#[c]⟩ = true := strOk_of h fun x hx => by
  obtain ⟨j, _, h2, _⟩ := atI_get e
  have : x = c := by simpa using hx
  subst this
  exact List.mem_of_getElem? h2
theorem ix_hr : ∀ b g z σ H Q x y vx vy, Sim w xr b g z σ H → Rb w g H x vx → Rb w g H y vy → PostE w xr W b g σ H Q (ofD z (ixD z.os x y)) → rIxA X.K vx vy H Q := by
  intro b g z σ H Q x y vx vy S rx ry k
  have fin : ∀ {d : D} {v : V}, ixD z.os x y = some d → Rp g.F g.al d v → Q v H := fun {d v} e h => by
    rw [e] at k
    exact PostE.now S h k
  have dct : ∀ (kvs : List (D × D)) (a : Addr), ((∃ l, H a = some (.dK l) ∧ Rkv g.F g.al kvs l) ∨ (∃ l, H a = some (.dT l) ∧ Rkt g.F g.al kvs l)) → ixD z.os x y = getD kvs y → vx = .ref a → rIxA X.K vx vy H Q := by
    intro kvs a hh hc ea
    subst ea
    by_cases hk : (keyOk y && kvs.all fun p => keyOk p.1) = true
    · have ry' : Rp g.F g.al y vy := by
        rw [Bool.and_eq_true] at hk
        obtain ⟨kk, rfl⟩ := keyOk_kD hk.1
        cases kk <;> exact ry
      obtain ⟨o, h1, h2, h3⟩ := dct_in ry' hh hk
      cases e : getD kvs y with
      | none => rw [hc, e] at k; exact k.elim
      | some d =>
        rw [e] at h3
        obtain ⟨v, rfl, h4⟩ := h3
        exact .inr ⟨a, v, rfl, h1, fin (hc.trans e) h4⟩
    · have : getD kvs y = none := by unfold getD; rw [if_neg hk]
      rw [hc, this] at k; exact k.elim
  have seq : ∀ (ds : List D) (a : Addr) (vs : List V), Rd H a (.lst vs) → Rps g.F g.al ds vs → (∀ i, y = .int i → ixD z.os x y = atI ds i) → vx = .ref a → (∃ i, y = .int i) → rIxA X.K vx vy H Q := by
    intro ds a vs hs hr hc ea ⟨i, ei⟩
    subst ea ei
    rw [ry.int]
    cases e : atI ds i with
    | none => rw [hc i rfl, e] at k; exact k.elim
    | some d =>
      obtain ⟨v, h1, h2⟩ := atI_rps hr e
      exact .inl (.inl ⟨a, vs, i, v, rfl, rfl, .inl hs, h1, fin ((hc i rfl).trans e) h2⟩)
  cases x with
  | tup ds =>
    obtain ⟨a, vs, rfl, r1, r2⟩ := rx.tup S
    cases y with
    | int i =>
      rw [ry.int]
      cases e : atI ds i with
      | none => simp only [ixD, e] at k; exact k.elim
      | some d =>
        obtain ⟨v, h1, h2⟩ := atI_rps r2 e
        exact .inl (.inr (.inl ⟨a, vs, i, v, rfl, rfl, SqT.of r1, h1, fin (by simp only [ixD, e]) h2⟩))
    | _ => exact k.elim
  | str s =>
    obtain ⟨rfl, hs⟩ := rx.str
    cases y with
    | int i =>
      rw [ry.int]
      simp only [ixD] at k
      split at k
      · rename_i hz
        cases e : atI s.cps.toList i with
        | none => rw [e] at k; exact k.elim
        | some c =>
          rw [e] at k
          exact .inl (.inr (.inr ⟨s, i, c, rfl, rfl, hz, e, PostE.now S (rp_str (strOk_sign hs e) _ _) k⟩))
      · exact k.elim
    | _ => exact k.elim
  | lst ds =>
    obtain ⟨a, vs, rfl, r1, r2⟩ := rx
    cases y with
    | int i => exact seq ds a vs (unbox_sub.rd r1) r2 (fun i e => by cases e; rfl) rfl ⟨_, rfl⟩
    | _ => exact k.elim
  | dct kvs =>
    obtain ⟨a, rfl, r1⟩ := rx
    refine dct kvs a ?_ rfl rfl
    rcases r1 with ⟨l, r1, r2⟩ | ⟨l, r1, r2⟩
    · exact .inl ⟨l, unbox_sub _ _ r1, r2⟩
    · exact .inr ⟨l, unbox_sub _ _ r1, r2⟩
  | box j =>
    have rx' : Rp g.F g.al (.box j) vx := rx
    simp only [Rp] at rx'
    obtain ⟨a, ha, rfl⟩ := rx'
    cases hj : z.os[j]? with
    | none => simp only [ixD, hj] at k; exact k.elim
    | some bx =>
      obtain ⟨a', ha', q'⟩ := S.boxAt hj
      rw [ha] at ha'; cases ha'
      cases bx with
      | lst ds =>
        obtain ⟨vs, q1, q2⟩ := q'
        cases y with
        | int i => exact seq ds a vs (.inl q1) q2 (fun i e => by cases e; simp only [ixD, hj]) rfl ⟨_, rfl⟩
        | _ => simp only [ixD, hj] at k; exact k.elim
      | dct kvs => exact dct kvs a q' (by simp only [ixD, hj]) rfl
      | ins c fs => simp only [ixD, hj] at k; exact k.elim
  | _ => exact k.elim
def Expr.slice : Expr → Bool
  | .Slice .. => true
  | _ => false
theorem plain_ok {e : Expr} (h : Expr.slice e = false) : PlainIx e := by
  intro o i
  cases e <;> first | rfl | (simp [Expr.slice] at h)
theorem s_ix {cf : CF} {ea eb : Expr} {ia ib : E} {pos : Pos} (hu : X.A.units + 64 < cLine) (hs : Expr.slice eb = false) (ha : SndB w xr X W ea fun z => fst1 (evalE cf ia z)) (hb : SndB w xr X W eb fun z => fst1 (evalE cf ib z)) :
    SndE w xr X W (.Subscript ea eb pos) (evalE cf (.ix ia ib)) := by
  have : SndE w xr X W (.Subscript ea eb pos) _ := s_two (w := w) (xr := xr) (W := W) (P := PE X (.Subscript ea eb pos)) (r := rIxA X.K) (G := fun z x y => ofD z (ixD z.os x y)) ha hb
    (fun ta tb pa pb => pe_ix (ix_seq.or (ix_dict (by omega))) pa pb (plain_ok hs)) ix_hr
  simpa only [evalE] using this
end
end Vi

namespace Vi
open PySem L2

section
variable {w : Wd} {xr : Nat → D → V → Prop} {X : Cx} {W : WX} {b : Bs} {g g2 : Gh} {z z2 : Z} {σ : St} {H H2 : Hp}

/-! ### slices -/
def PostO (w : Wd) (xr : Nat → D → V → Prop) (W : WX) (b : Bs) (g : Gh) (σ : St) (H : Hp) (Q : Option Int → Hp → Prop) : R Z (List D) → Prop
  | .ok ds z' => match intO ds with
    | some o => ∀ g' H', Stp g H g' H' → Sim w xr b g' z' σ H' → Q o H'
    | none => False
  | .exc c x z' => ∀ g' cls dd H', Stp g H g' H' → Sim w xr b g' z' σ H' → XR w.cad g' c x cls dd H' → W cls dd σ H'
  | .stuck => False
def SndO (w : Wd) (xr : Nat → D → V → Prop) (X : Cx) (W : WX) (e : Option Expr) (f : Z → R Z (List D)) : Prop :=
  ∃ t, PO X e t ∧ ∀ b g z σ H Q, Sim w xr b g z σ H → PostO w xr W b g σ H Q (f z) → t σ H Q
theorem o_none {cf : CF} : SndO w xr X W none (evalEs cf []) := ⟨_, po_none, fun b g z σ H Q S k => k g H (.refl _ _) S⟩
theorem o_some {cf : CF} {e : Expr} {i : E} (h : SndB w xr X W e fun z => fst1 (evalE cf i z)) : SndO w xr X W (some e) (evalEs cf [i]) := by
  obtain ⟨t, p, q⟩ := h
  refine ⟨_, po_some p, fun b g z σ H Q S k => q b g z σ H _ S ?_⟩
  simp only [evalEs] at k
  simp only [fst1]
  cases r : evalE cf i z with
  | stuck => rw [r] at k; exact k
  | exc c x z' => rw [r] at k; exact k
  | ok x z1 =>
    rw [r] at k
    obtain ⟨d, fr⟩ := x
    simp only [R.bind_ok] at k
    cases d with
    | int j =>
      intro g1 v H1 st1 S1 rx
      exact ⟨j, rx.int, k g1 H1 st1 S1⟩
    | _ => exact k.elim
def rSlR : V → Option Int → Option Int → Hp → VK → Prop := fun x lo hi H Q => ∃ a xs, x = .ref a ∧ Rd H a (.lst xs) ∧ ∀ p, H p = none → Q (.ref p) (upd H p (.lst (cutV xs lo hi)))
def rSlice (K : PySem.W.Frag) : V → Option Int → Option Int → Hp → VK → Prop := fun x lo hi H Q => rSlL K x lo hi H Q ∨ (rSlA K x lo hi H Q ∨ rSlS x lo hi H Q)
theorem cut_rps {F : Hp} {al : List Addr} {ds : List D} {vs : List V} (h : Rps F al ds vs) (lo hi : Option Int) : Rps F al (cutD ds lo hi) (cutV vs lo hi) := by
  unfold cutD cutV
  rw [Rps.length h]
  exact Rps.take _ (Rps.drop _ h)
theorem sl_hr : ∀ b g z σ H Q x vx lo hi, Sim w xr b g z σ H → Rb w g H x vx → PostE w xr W b g σ H Q (ofT z (slD z.os x lo hi)) → rSlice X.K vx lo hi H Q := by
  intro b g z σ H Q x vx lo hi S rx k
  unfold slD at k
  split at k
  · rename_i ds
    have rx' : Rp g.F g.al (.tup ds) vx := rx
    obtain ⟨a, vs, rfl, r1, r2⟩ := rx.tup S
    refine .inr (.inl ⟨a, vs, rfl, SqT.of r1, fun hw => ?_, fun hw p hp => ?_⟩)
    · have e : cutD ds lo hi = ds := by
        unfold cutD
        rw [← Rps.length r2, hw.1, hw.2]
        simp [Rps.length r2]
      rw [e] at k
      exact k.now S rx'
    · exact k.tup S hp (cut_rps r2 lo hi)
  · rename_i s
    obtain ⟨rfl, hs⟩ := rx.str
    split at k
    · rename_i hz
      refine .inr (.inr ⟨s, rfl, hz, k.now S (rp_str (strOk_of hs fun c hc => ?_) _ _)⟩)
      have hc' : c ∈ cutD s.cps.toList lo hi := hc
      unfold cutD at hc'
      exact List.mem_of_mem_drop (List.mem_of_mem_take hc')
    · exact k.elim
  · split at k
    · rename_i ds hd
      obtain ⟨a, vs, rfl, r1, r2⟩ := rdL_of S rx hd
      refine .inl ⟨a, vs, rfl, .inl r1, fun p hp => ?_⟩
      exact k.new S hp rfl (cel_lst (cut_rps r2 lo hi))
    · exact k.elim
theorem s_sl {cf : CF} {ea : Expr} {lo hi : Option Expr} {ia : E} {il ih : List E} {pos p2 : Pos} (ha : SndB w xr X W ea fun z => fst1 (evalE cf ia z)) (hl : SndO w xr X W lo (evalEs cf il)) (hh : SndO w xr X W hi (evalEs cf ih)) :
    SndE w xr X W (.Subscript ea (.Slice lo hi none p2) pos) (evalE cf (.sl ia il ih)) := by
  obtain ⟨ta, pa, qa⟩ := ha
  obtain ⟨tl, pl, ql⟩ := hl
  obtain ⟨th, ph, qh⟩ := hh
  refine ⟨_, pe_slice (sl_list.or (sl_tupA.or sl_str)) pa pl ph, fun b g z σ H Q S k => qa b g z σ H _ S ?_⟩
  simp only [evalE] at k
  simp only [fst1]
  cases ra : evalE cf ia z with
  | stuck => rw [ra] at k; exact k
  | exc c x z' => rw [ra] at k; exact k
  | ok x z1 =>
    rw [ra] at k
    intro g1 v H1 st1 S1 rx
    refine ql b g1 z1 σ H1 _ S1 ?_
    have k1 := PostE.step S1 st1 k
    simp only [R.bind_ok] at k1
    cases rl : evalEs cf il z1 with
    | stuck => rw [rl] at k1; exact k1
    | exc c x z' => rw [rl] at k1; exact k1
    | ok l z2 =>
      rw [rl] at k1
      simp only [R.bind_ok] at k1
      cases el : intO l with
      | none => rw [el] at k1; exact k1.elim
      | some lo' =>
        simp only [PostO, el]
        intro g2 H2 st2 S2
        refine qh b g2 z2 σ H2 _ S2 ?_
        have k2 := PostE.step S2 st2 k1
        rw [el] at k2
        simp only [withI] at k2
        cases rh : evalEs cf ih z2 with
        | stuck => rw [rh] at k2; exact k2
        | exc c x z' => rw [rh] at k2; exact k2
        | ok h z3 =>
          rw [rh] at k2
          simp only [R.bind_ok] at k2
          cases eh : intO h with
          | none => rw [eh] at k2; exact k2.elim
          | some hi' =>
            rw [eh] at k2
            simp only [PostO, eh]
            intro g3 H3 st3 S3
            have k3 := PostE.step S3 st3 k2
            exact sl_hr (W := W) b g3 z3 σ H3 Q x.1 v lo' hi' S3 ((rx.mono st2).mono st3) k3
end
end Vi

namespace Vi
open PySem L2

section
variable {w : Wd} {xr : Nat → D → V → Prop} {X : Cx} {W : WX} {b : Bs} {g g2 : Gh} {z z2 : Z} {σ : St} {H H2 : Hp}

theorem s_rev {cf : CF} {ea : Expr} {ia : E} {k0 : Nat} {p1 p2 p3 pos : Pos} (ha : SndB w xr X W ea fun z => fst1 (evalE cf ia z)) :
    SndE w xr X W (.Subscript ea (.Slice none none (some (.UnaryOp .USub (.Constant (.int 1) k0 p1) p2)) p3) pos) (evalE cf (.rev ia)) := by
  have : SndE w xr X W (.Subscript ea (.Slice none none (some (.UnaryOp .USub (.Constant (.int 1) k0 p1) p2)) p3) pos) _ := s_one (w := w) (xr := xr) (W := W) (P := PE X (.Subscript ea (.Slice none none (some (.UnaryOp .USub (.Constant (.int 1) k0 p1) p2)) p3) pos))
    (r := fun x H Q => ∃ a xs, x = .ref a ∧ SqL X.K H a xs ∧ ∀ p, H p = none → Q (.ref p) (upd H p (.lst xs.reverse))) (G := fun z x => ofT z ((rdL z.os x).map fun ds => (.lst ds.reverse, true))) ha (fun ta pa => pe_revL pa) ?_
  · simpa only [evalE] using this
  · intro b g z σ H Q x vx S rx k
    cases h : rdL z.os x with
    | none => rw [h] at k; exact k.elim
    | some ds =>
      rw [h] at k
      obtain ⟨a, vs, rfl, r1, r2⟩ := rdL_of S rx h
      exact ⟨a, vs, rfl, .inl r1, fun p hp => PostE.new S hp rfl (cel_lst (Rps.reverse r2)) k⟩

/-! ### a box of one's own list -/
theorem Paired.len {α β : Type} {P : α → β → Prop} : ∀ {xs : List α} {ys : List β}, Paired P xs ys → xs.length = ys.length
  | _, _, .nil => rfl
  | _, _, .cons a t => by rw [List.length_cons, List.length_cons, Paired.len t]
/-- one's own list goes into a new box -/
theorem Sim.boxed (S : Sim w xr b g z σ H) {d : D} {p : Addr} {bx : Bx} (ow : Own w b g H d p) (off : Off z σ p) (hb : BxRel w.cad g.F g.al H bx p) :
    Sim w xr b ⟨g.F, g.al ++ [p]⟩ { z with os := z.os ++ [bx] } σ H := by
  have pr : Pre g.al (g.al ++ [p]) := ⟨[p], rfl⟩
  refine ⟨S.sub, S.new, S.kept, S.pF, S.pre.trans pr, fun a ha => ?_, fun a ha => ?_, ?_, ?_, S.len, S.ln, fun i e he => ?_, S.dis, fun a ha => ?_⟩
  · rcases List.mem_append.mp ha with h | h
    · exact S.alnew a h
    · rw [List.mem_singleton.mp h]; exact .inr ow.nH
  · rcases List.mem_append.mp ha with h | h
    · exact S.alF a h
    · rw [List.mem_singleton.mp h]; exact ow.nF
  · refine List.nodup_append.mpr ⟨S.nd, by simp, fun a ha c hc => ?_⟩
    rw [List.mem_singleton.mp hc]
    exact fun q => ow.nB (q ▸ ha)
  · exact Paired.app (Paired.imp (fun x a q => q.mono (.refl _) pr fun _ q => q) S.box) (.cons (hb.mono (.refl _) pr fun _ q => q) .nil)
  · have q := S.ent i e he
    cases e with
    | no => trivial
    | ex c x => exact q
    | val d' fr =>
      obtain ⟨v, e1, e2⟩ := q
      refine ⟨v, e1, ?_⟩
      unfold ValRel at e2 ⊢
      split
      · rename_i hc
        rw [if_pos hc] at e2
        obtain ⟨a, rfl, o⟩ := e2
        have hne : a ≠ p := fun q => off i _ he hc (by unfold sad; rw [e1, q])
        refine ⟨a, rfl, ⟨o.nF, fun q => ?_, o.nH, o.nR, o.cl.mono (.refl _) pr fun _ q => q⟩⟩
        rcases List.mem_append.mp q with h | h
        · exact o.nB h
        · exact hne (List.mem_singleton.mp h)
      · rename_i hc
        rw [if_neg hc] at e2
        exact Rp.mono (.refl _) pr _ _ e2
  · obtain ⟨h1, h2, h3⟩ := S.rs a ha
    refine ⟨h1, fun q => ?_, h3⟩
    rcases List.mem_append.mp q with h | h
    · exact h2 h
    · exact ow.nR (by rw [← List.mem_singleton.mp h]; exact ha)
theorem s_box {cf : CF} {e : Expr} {i : E} (h : SndE w xr X W e (evalE cf i)) : SndE w xr X W e (evalE cf (.box i)) := by
  obtain ⟨t, p, q⟩ := h
  refine ⟨t, p, fun b g z σ H Q S k => q b g z σ H Q S ?_⟩
  simp only [evalE] at k
  cases r : evalE cf i z with
  | stuck => rw [r] at k; exact k
  | exc c x z' => rw [r] at k; exact k
  | ok a z1 =>
    rw [r] at k
    simp only [R.bind_ok] at k
    intro g1 v H1 st1 S1 tm
    have main : ∀ (bx : Bx) (d : D), a = (d, true) → d.cell = true → (∀ p, Cel g1.F g1.al H1 p d → BxRel w.cad g1.F g1.al H1 bx p) → PostE w xr W b g σ H Q (.ok (.box z1.os.length, false) { z1 with os := z1.os ++ [bx] }) → Q v H1 := by
      intro bx d ea hd hbx k'
      subst ea
      unfold Tmp at tm
      rw [if_pos (by simp [hd])] at tm
      obtain ⟨p, rfl, ow, off, hn⟩ := tm
      have S2 := S1.boxed ow off (hbx p ow.cl)
      refine k' ⟨g1.F, g1.al ++ [p]⟩ (.ref p) H1 ⟨st1.F, st1.al.trans ⟨[p], rfl⟩, fun a ha => ?_, st1.keep⟩ S2 (Tmp.frozen ?_)
      · rcases List.mem_append.mp ha with h | h
        · exact st1.alnew a h
        · rw [List.mem_singleton.mp h]; exact .inr hn
      · simp only [Rp]
        refine ⟨p, ?_, rfl⟩
        have := Paired.len S1.box
        rw [List.getElem?_append_right (by omega), this]
        simp
    unfold boxZ at k
    split at k
    · exact main _ _ rfl rfl (fun _ c => by obtain ⟨vs, h1, h2⟩ := c; exact ⟨vs, h1, h2⟩) k
    · exact main _ _ rfl rfl (fun _ c => by rcases c with c | c; exact .inl c; exact .inr c) k
    · exact k.elim

/-! ### fields -/
theorem Rfs.look {F : Hp} {al : List Addr} {f : Str} : ∀ {fs : List (Str × D)} {fv : List (Str × V)}, Rfs F al fs fv → ∀ {d : D}, fs.lookup f = some d → ∃ v, fv.lookup f = some v ∧ Rp F al d v
  | _, _, .nil, d, h => by cases h
  | (n, d0) :: fs, (m, v0) :: fv, .cons a t, d, h => by
    obtain ⟨h1, h2⟩ := a
    simp only at h1
    subst h1
    rw [List.lookup_cons] at h ⊢
    by_cases e : f = n
    · subst e
      simp only [beq_self_eq_true] at h ⊢
      cases h
      exact ⟨v0, rfl, h2⟩
    · have e' : (f == n) = false := by simpa using e
      rw [e'] at h ⊢
      exact Rfs.look t h

/-! ### built-in functions -/
theorem intsO_of {F : Hp} {al : List Addr} : ∀ {ds : List D} {vs : List V} {is : List Int}, Rps F al ds vs → intsO ds = some is → vs = is.map V.int
  | [], vs, is, h, e => by simp only [Rps] at h; simp only [intsO] at e; cases e; subst h; rfl
  | d :: ds, vs, is, h, e => by
    simp only [Rps] at h
    obtain ⟨v, r, rfl, h1, h2⟩ := h
    cases d with
    | int i =>
      simp only [intsO, Option.map_eq_some_iff] at e
      obtain ⟨js, e1, rfl⟩ := e
      simp only [Rp] at h1
      subst h1
      rw [List.map_cons, intsO_of h2 e1]
    | _ => simp [intsO] at e
theorem fold_max : ∀ (l : List Int) (i : Int), (l.foldl (fun a b => if b > a then b else a) i = i ∨ l.foldl (fun a b => if b > a then b else a) i ∈ l) ∧ i ≤ l.foldl (fun a b => if b > a then b else a) i ∧ ∀ y ∈ l, y ≤ l.foldl (fun a b => if b > a then b else a) i
  | [], i => ⟨.inl rfl, Int.le_refl _, fun _ h => by cases h⟩
  | x :: l, i => by
    obtain ⟨h1, h2, h3⟩ := fold_max l (if x > i then x else i)
    rw [List.foldl_cons]
    refine ⟨?_, ?_, fun y hy => ?_⟩
    · rcases h1 with h1 | h1
      · rw [h1]; split
        · exact .inr (by simp)
        · exact .inl rfl
      · exact .inr (List.mem_cons_of_mem _ h1)
    · refine Int.le_trans ?_ h2
      split <;> omega
    · rcases List.mem_cons.mp hy with rfl | hy
      · refine Int.le_trans ?_ h2
        split <;> omega
      · exact h3 y hy
theorem fold_min : ∀ (l : List Int) (i : Int), (l.foldl (fun a b => if b < a then b else a) i = i ∨ l.foldl (fun a b => if b < a then b else a) i ∈ l) ∧ l.foldl (fun a b => if b < a then b else a) i ≤ i ∧ ∀ y ∈ l, l.foldl (fun a b => if b < a then b else a) i ≤ y
  | [], i => ⟨.inl rfl, Int.le_refl _, fun _ h => by cases h⟩
  | x :: l, i => by
    obtain ⟨h1, h2, h3⟩ := fold_min l (if x < i then x else i)
    rw [List.foldl_cons]
    refine ⟨?_, ?_, fun y hy => ?_⟩
    · rcases h1 with h1 | h1
      · rw [h1]; split
        · exact .inr (by simp)
        · exact .inl rfl
      · exact .inr (List.mem_cons_of_mem _ h1)
    · refine Int.le_trans h2 ?_
      split <;> omega
    · rcases List.mem_cons.mp hy with rfl | hy
      · refine Int.le_trans h2 ?_
        split <;> omega
      · exact h3 y hy
/-- its name, what it is -/
def fnName : Fn → Str
  | .len => "len"
  | .abs => "abs"
  | .int => "int"
  | .str => "str"
  | .list => "list"
  | .tuple => "tuple"
  | .sorted => "sorted"
  | .sum => "sum"
  | .min => "min"
  | .max => "max"
  | .set => "set"
  | .dict => "dict"
def fnVal : Fn → Value
  | .len => .builtin "len"
  | .abs => .builtin "abs"
  | .int => .type "int"
  | .str => .type "str"
  | .list => .type "list"
  | .tuple => .type "tuple"
  | .sorted => .builtin "sorted"
  | .sum => .builtin "sum"
  | .min => .builtin "min"
  | .max => .builtin "max"
  | .set => .type "set"
  | .dict => .type "dict"
theorem fn_boot : ∀ f : Fn, bootBuiltins (fnName f) = some (fnVal f)
  | .len => by decide +kernel
  | .abs => by decide +kernel
  | .int => by decide +kernel
  | .str => by decide +kernel
  | .list => by decide +kernel
  | .tuple => by decide +kernel
  | .sorted => by decide +kernel
  | .sum => by decide +kernel
  | .min => by decide +kernel
  | .max => by decide +kernel
  | .set => by decide +kernel
  | .dict => by decide +kernel
theorem strOk_ofString (s : String) : PyData.strOk (Str.ofString s) = true := by
  rw [Str.ofString_eq_toList]
  unfold PyData.strOk
  rw [Array.all_eq_true']
  intro x hx
  simp only [List.mem_toArray, List.mem_map] at hx
  obtain ⟨c, _, rfl⟩ := hx
  have := c.valid
  simp only [decide_eq_true_eq]
  rcases this with h | h
  · have : c.val.toNat < 0xd800 := h
    show c.val.toNat < _
    omega
  · exact h.2
theorem strOk_int (i : Int) : PyData.strOk (Str.ofString (toString i)) = true := strOk_ofString _
abbrev RA := List V → Hp → VK → Prop
def orA (r r' : RA) : RA := fun xs H Q => r xs H Q ∨ r' xs H Q
def rLen (K : PySem.W.Frag) : RA := fun xs H Q => ∃ x n, xs = [x] ∧ LenV K x H n ∧ Q (.int n) H
def rLenD : RA := fun xs H Q => ∃ a kvs, xs = [V.ref a] ∧ H a = some (.dK kvs) ∧ Q (.int kvs.length) H
def rAbs : RA := fun xs H Q => ∃ i, xs = [.int i] ∧ Q (.int (if i < 0 then -i else i)) H
def rMax2 : RA := fun xs H Q => ∃ i j, xs = [.int i, .int j] ∧ Q (.int (if j > i then j else i)) H
def rMin2 : RA := fun xs H Q => ∃ i j, xs = [.int i, .int j] ∧ Q (.int (if j < i then j else i)) H
def rInt1 : RA := fun xs H Q => (∃ i, xs = [.int i] ∧ Q (.int i) H) ∨ ∃ k, xs = [.bl k] ∧ Q (.int (if k then 1 else 0)) H
def rListOf (K : PySem.W.Frag) : RA := fun xs H Q => ∃ p ys, xs = [.ref p] ∧ (SqL K H p ys ∨ SqT K H p ys) ∧ ∀ l, H l = none → Q (.ref l) (upd H l (.lst ys))
def rIntS : RA := fun xs H Q => ∃ a n, xs = [.str a] ∧ PySem.intText? a = some n ∧ a.length ≤ 640 ∧ Q (.int n) H
def rStrI : RA := fun xs H Q => ∃ i, xs = [.int i] ∧ i.natAbs.log2 < 1920 ∧ Q (.str (toString i)) H
def rFn (K : PySem.W.Frag) : Fn → RA
  | .len => orA (rLen K) rLenD
  | .abs => rAbs
  | .int => orA rInt1 rIntS
  | .str => rStrI
  | .list => rListOf K
  | .min => orA rMin2 (rMin K)
  | .max => orA rMax2 (rMax K)
  | .sum => rSum K
  | _ => fun _ _ _ => False
theorem fn_call (hc : X.calm = true) : ∀ f : Fn, CallR X (fnVal f) (rFn X.K f)
  | .len => call_len.or call_lenD
  | .abs => call_abs
  | .int => call_int1.or call_int_str
  | .list => call_list_of
  | .min => (call_min2 hc).or (cr_min hc)
  | .max => (call_max2 hc).or (cr_max hc)
  | .sum => cr_sum hc
  | .str => call_str_int
  | .tuple => fun _ _ _ _ _ _ _ _ _ h => h.elim
  | .sorted => fun _ _ _ _ _ _ _ _ _ h => h.elim
  | .set => fun _ _ _ _ _ _ _ _ _ h => h.elim
  | .dict => fun _ _ _ _ _ _ _ _ _ h => h.elim
theorem rbs1 {d : D} {vs : List V} (h : Rbs w g H [d] vs) : ∃ v, vs = [v] ∧ Rb w g H d v := by
  obtain ⟨v, r, rfl, h1, h2⟩ := h
  cases h2
  exact ⟨v, rfl, h1⟩
theorem rbs2 {d e : D} {vs : List V} (h : Rbs w g H [d, e] vs) : ∃ v u, vs = [v, u] ∧ Rb w g H d v ∧ Rb w g H e u := by
  obtain ⟨v, r, rfl, h1, h2⟩ := h
  obtain ⟨u, rfl, h3⟩ := rbs1 h2
  exact ⟨v, u, rfl, h1, h3⟩
theorem dct_len {F : Hp} {al : List Addr} : ∀ {kvs : List (D × D)} {l : List (Key × V)}, Rkv F al kvs l → l.length = kvs.length
  | [], l, h => by simp only [Rkv] at h; subst h; rfl
  | (k, d) :: r, l, h => by
    simp only [Rkv] at h
    obtain ⟨_, _, q, rfl, _, _, h2⟩ := h
    rw [List.length_cons, List.length_cons, dct_len h2]
theorem fn_hr (f : Fn) : ∀ b g z σ H Q ds vs, Sim w xr b g z σ H → Rbs w g H ds vs → PostE w xr W b g σ H Q (ofT z (fnD f z.os ds)) → rFn X.K f vs H Q := by
  intro b g z σ H Q ds vs S rs k
  unfold fnD at k
  split at k
  · obtain ⟨v, rfl, rx⟩ := rbs1 rs
    obtain ⟨rfl, hs⟩ := rx.str
    split at k
    · rename_i hz; exact .inl ⟨_, _, rfl, ⟨hz, rfl⟩, PostE.now S (rp_int _ _) k⟩
    · exact k.elim
  · obtain ⟨v, rfl, rx⟩ := rbs1 rs
    obtain ⟨a, us, rfl, r1, r2⟩ := rx.tup S
    exact .inl ⟨_, _, rfl, .inr ⟨us, SqT.of r1, (Rps.length r2).symm⟩, PostE.now S (rp_int _ _) k⟩
  · rename_i kvs
    obtain ⟨v, rfl, rx⟩ := rbs1 rs
    obtain ⟨a, rfl, h⟩ := rx
    split at k
    · rename_i hk
      rcases h with ⟨l, r1, r2⟩ | ⟨l, r1, r2⟩
      · refine .inr ⟨a, l, rfl, unbox_sub _ _ r1, ?_⟩
        rw [dct_len r2]; exact PostE.now S (rp_int _ _) k
      · exact (Rkt_keys r2 hk).elim
    · exact k.elim
  · rename_i i
    obtain ⟨v, rfl, rx⟩ := rbs1 rs
    have rx' : Rp g.F g.al (.box i) v := rx
    simp only [Rp] at rx'
    obtain ⟨a, ha, rfl⟩ := rx'
    split at k
    · rename_i ds hi
      obtain ⟨a', ha', q⟩ := S.boxAt hi
      rw [ha] at ha'; cases ha'
      obtain ⟨us, q1, q2⟩ := q
      exact .inl ⟨_, _, rfl, .inl ⟨us, SqL.of q1, (Rps.length q2).symm⟩, PostE.now S (rp_int _ _) k⟩
    · rename_i kvs hi
      split at k
      · rename_i hk
        obtain ⟨a', ha', q⟩ := S.boxAt hi
        rw [ha] at ha'; cases ha'
        rcases q with ⟨l, r1, r2⟩ | ⟨l, r1, r2⟩
        · refine .inr ⟨a, l, rfl, r1, ?_⟩
          rw [dct_len r2]; exact PostE.now S (rp_int _ _) k
        · exact (Rkt_keys r2 hk).elim
      · exact k.elim
    · exact k.elim
  · obtain ⟨v, rfl, rx⟩ := rbs1 rs
    obtain ⟨a, us, rfl, r1, r2⟩ := rx
    exact .inl ⟨_, _, rfl, .inl ⟨us, .inl (unbox_sub.rd r1), (Rps.length r2).symm⟩, PostE.now S (rp_int _ _) k⟩
  · obtain ⟨v, rfl, rx⟩ := rbs1 rs
    rw [rx.int]
    exact ⟨_, rfl, PostE.now S (rp_int _ _) k⟩
  · obtain ⟨v, rfl, rx⟩ := rbs1 rs
    rw [rx.int]
    exact .inl (.inl ⟨_, rfl, PostE.now S (rp_int _ _) k⟩)
  · obtain ⟨v, rfl, rx⟩ := rbs1 rs
    rw [rx.bl]
    exact .inl (.inr ⟨_, rfl, PostE.now S (rp_int _ _) k⟩)
  · obtain ⟨v, rfl, rx⟩ := rbs1 rs
    obtain ⟨rfl, hs⟩ := rx.str
    split at k
    · rename_i n hn
      split at k
      · rename_i hl
        exact .inr ⟨_, n, rfl, hn, hl, PostE.now S (rp_int _ _) k⟩
      · exact k.elim
    · exact k.elim
  · obtain ⟨v, rfl, rx⟩ := rbs1 rs
    rw [rx.int]
    split at k
    · rename_i hl
      exact ⟨_, rfl, hl, PostE.now S (rp_str (strOk_int _) _ _) k⟩
    · exact k.elim
  · obtain ⟨v, rfl, rx⟩ := rbs1 rs
    obtain ⟨a, us, rfl, r1, r2⟩ := rx.tup S
    exact ⟨a, us, rfl, .inr (SqT.of r1), fun p hp => PostE.new S hp rfl (cel_lst r2) k⟩
  · rename_i x _
    obtain ⟨v, rfl, rx⟩ := rbs1 rs
    cases h : rdL z.os x with
    | none => rw [h] at k; exact k.elim
    | some es =>
      rw [h] at k
      obtain ⟨a, us, rfl, r1, r2⟩ := rdL_of S rx h
      exact ⟨a, us, rfl, .inl (.inl r1), fun p hp => PostE.new S hp rfl (cel_lst r2) k⟩
  · obtain ⟨v, u, rfl, r1, r2⟩ := rbs2 rs
    rw [r1.int, r2.int]
    exact .inl ⟨_, _, rfl, PostE.now S (rp_int _ _) k⟩
  · obtain ⟨v, u, rfl, r1, r2⟩ := rbs2 rs
    rw [r1.int, r2.int]
    exact .inl ⟨_, _, rfl, PostE.now S (rp_int _ _) k⟩
  · rename_i x
    obtain ⟨v, rfl, rx⟩ := rbs1 rs
    split at k
    · rename_i i r h
      obtain ⟨es, h1, h2⟩ := Option.bind_eq_some_iff.mp h
      obtain ⟨a, us, rfl, r1, r2⟩ := rdL_of S rx h1
      have e := intsO_of r2 h2
      subst e
      refine .inr ⟨a, i :: r, rfl, .inl r1, by simp, fun m hm hle => ?_⟩
      obtain ⟨f1, f2, f3⟩ := fold_min r i
      have : m = r.foldl (fun a b => if b < a then b else a) i := by
        apply Int.le_antisymm
        · rcases f1 with f1 | f1
          · rw [f1]; exact hle i (by simp)
          · exact hle _ (List.mem_cons_of_mem _ f1)
        · rcases List.mem_cons.mp hm with rfl | hm
          · exact f2
          · exact f3 m hm
      subst this
      exact PostE.now S (rp_int _ _) k
    · exact k.elim
  · rename_i x
    obtain ⟨v, rfl, rx⟩ := rbs1 rs
    split at k
    · rename_i i r h
      obtain ⟨es, h1, h2⟩ := Option.bind_eq_some_iff.mp h
      obtain ⟨a, us, rfl, r1, r2⟩ := rdL_of S rx h1
      have e := intsO_of r2 h2
      subst e
      refine .inr ⟨a, i :: r, rfl, .inl r1, by simp, fun m hm hle => ?_⟩
      obtain ⟨f1, f2, f3⟩ := fold_max r i
      have : m = r.foldl (fun a b => if b > a then b else a) i := by
        apply Int.le_antisymm
        · rcases List.mem_cons.mp hm with rfl | hm
          · exact f2
          · exact f3 m hm
        · rcases f1 with f1 | f1
          · rw [f1]; exact hle i (by simp)
          · exact hle _ (List.mem_cons_of_mem _ f1)
      subst this
      exact PostE.now S (rp_int _ _) k
    · exact k.elim
  · rename_i x
    obtain ⟨v, rfl, rx⟩ := rbs1 rs
    split at k
    · rename_i is h
      obtain ⟨es, h1, h2⟩ := Option.bind_eq_some_iff.mp h
      obtain ⟨a, us, rfl, r1, r2⟩ := rdL_of S rx h1
      have e := intsO_of r2 h2
      subst e
      exact ⟨a, is, rfl, .inl r1, PostE.now S (rp_int _ _) k⟩
    · exact k.elim
  · exact k.elim
theorem star_any : ∀ (es : List Expr) (pos : Pos) (env : Env), es.all (fun e => !Expr.star e) = true → (backTo pos (starEach es env)).any (·.1) = false
  | [], _, _, _ => rfl
  | e :: es, pos, env, h => by
    rw [List.all_cons, Bool.and_eq_true] at h
    rw [star_ok (by simpa using h.1)]
    have := star_any es pos env h.2
    unfold backTo at this ⊢
    rw [List.map_cons, List.any_cons, this]
    rfl
theorem pe_fn (hc : X.calm = true) (f : Fn) {e : Expr} {es : List Expr} {t : TA} {p pos : Pos} (hg : Gl X (fnName f)) (hm : X.mg (fnName f) = none) (hs : Expr.star e = false) (hs2 : es.all (fun e => !Expr.star e) = true) (ha : PA X (e :: es) t) :
    PE X (.Call (.Name (fnName f) p) (e :: es) [] pos) (tCB (rFn X.K f) t) := by
  have h1 := star_ok hs es X.env
  have h2 := star_any es pos X.env hs2
  have h3 := fn_boot f
  have h4 := fn_call (X := X) hc f
  cases f with
  | len | abs | sorted | sum | min | max => exact pe_callB h4 hg hm h3 ha (by decide) (by decide) h1 h2
  | int | str | list | tuple | set | dict => exact pe_callTy h4 hg hm h3 ha (by decide) (by decide) h1 h2
theorem s_fn {cf : CF} (hc : X.calm = true) (f : Fn) {e : Expr} {es : List Expr} {is : List E} {p pos : Pos} (hg : Gl X (fnName f)) (hm : X.mg (fnName f) = none) (hs : Expr.star e = false) (hs2 : es.all (fun e => !Expr.star e) = true) (ha : SndA w xr X W (e :: es) (evalEs cf is)) :
    SndE w xr X W (.Call (.Name (fnName f) p) (e :: es) [] pos) (evalE cf (.fn f is)) := by
  obtain ⟨t, pa, qa⟩ := ha
  refine ⟨_, pe_fn hc f hg hm hs hs2 pa, fun b g z σ H Q S k => qa b g z σ H _ S ?_⟩
  simp only [evalE] at k
  cases r : evalEs cf is z with
  | stuck => rw [r] at k; exact k
  | exc c x z' => rw [r] at k; exact k
  | ok ds z1 =>
    rw [r] at k
    intro g1 vs H1 st1 S1 rs
    exact fn_hr (W := W) f b g1 z1 σ H1 Q ds vs S1 rs (PostE.step S1 st1 k)

/-! ### isinstance -/
def tyName : Ty → Option String
  | .int => some "int"
  | .bool => some "bool"
  | .str => some "str"
  | .list => some "list"
  | .tuple => some "tuple"
  | _ => none
theorem ty_isD {K : PySem.W.Frag} {d : D} {t : Ty} {n m : String} (h : tyOf d = some n) (h' : tyName t = some m) : PySem.W.kitOne K (.type n) (.type m) = some (isD t d) := by
  cases d <;> simp only [tyOf, Option.some.injEq, reduceCtorEq] at h <;> subst h <;> cases t <;> simp only [tyName, Option.some.injEq, reduceCtorEq] at h' <;> subst h' <;> first | exact kit_ty (r := true) (by decide +kernel) | exact kit_ty (r := false) (by decide +kernel)
theorem tyx_of {K : PySem.W.Frag} {d : D} {v : V} {n : String} (S : Sim w xr b g z σ H) (h : Rb w g H d v) (e : tyOf d = some n) : TyX K H v (.type n) := by
  cases d with
  | non => cases e; rw [h.non]; exact .base .non
  | bl c => cases e; rw [h.bl]; exact .base (.bl c)
  | int i => cases e; rw [h.int]; exact .base (.int i)
  | str s => cases e; rw [h.str.1]; exact .base (.str s)
  | tup ds =>
    cases e
    obtain ⟨a, vs, rfl, r1, r2⟩ := h.tup S
    exact .base (.tup r1)
  | lst ds =>
    cases e
    obtain ⟨a, vs, rfl, r1, r2⟩ := h
    rcases unbox_sub.rd r1 with q | ⟨o, q⟩
    · exact .base (.lst q)
    · exact .base (.frz q)
  | dct kvs =>
    cases e
    obtain ⟨a, rfl, h⟩ := h
    rcases h with ⟨l, r1, r2⟩ | ⟨l, r1, r2⟩
    · exact .base (.dK (unbox_sub _ _ r1))
    · exact .base (.dT (unbox_sub _ _ r1))
  | box i => cases e
/-- the class's name is the built-in's -/
theorem s_isi {cf : CF} {e : Expr} {i : E} {t : Ty} {m : String} {x : Str} {p p' pos : Pos} (hm : tyName t = some m) (hx : bootBuiltins x = some (.type m)) (hxn : x ≠ "__name__") (hxd : (x == ("__debug__" : Str)) = false) (hgx : Gl X x) (hmx : X.mg x = none)
    (hg : Gl X "isinstance") (hmg : X.mg "isinstance" = none) (hs : Expr.star e = false) (h : SndB w xr X W e fun z => fst1 (evalE cf i z)) :
    SndE w xr X W (.Call (.Name "isinstance" p) [e, .Name x p'] [] pos) (evalE cf (.isi i [t])) := by
  obtain ⟨te, pe, qe⟩ := h
  refine ⟨_, pe_callB call_isi hg hmg PyProof.Rows.boot_isinstance (pa_cons pe (pa_cons (pe_bltn (v := .ty m) hgx hmx hx rfl hxn hxd) pa_nil) (star_ok hs _ _)) (by decide) (by decide) (star_ok hs _ _) (by rfl), fun b g z σ H Q S k => qe b g z σ H _ S ?_⟩
  simp only [evalE] at k
  simp only [fst1]
  cases r : evalE cf i z with
  | stuck => rw [r] at k; exact k
  | exc c x z' => rw [r] at k; exact k
  | ok a z1 =>
    rw [r] at k
    simp only [R.bind_ok] at k
    intro g1 v H1 st1 S1 rb
    have k1 := PostE.step S1 st1 k
    cases hn : tyOf a.1 with
    | none => simp only [isiZ, hn] at k1; exact k1.elim
    | some n =>
      simp only [isiZ, hn] at k1
      exact ⟨v, .ty m, .type n, .type m, isD t a.1, rfl, .ty m, tyx_of S1 rb hn, ty_isD hn hm, k1.now S1 (by simpa using rp_bl _ _)⟩
end
end Vi

namespace Vi
open PySem L2

/-- behind a call, for who stood at (g, H) -/
structure Out (cad : Nat → Addr) (g : Gh) (H : Hp) (g' : Gh) (H' : Hp) (os' : Os) : Prop where
  st : Stp g H g' H'
  newF : ∀ a, g'.F a ≠ none → g.F a ≠ none ∨ H a = none
  sub : Sub g'.F H'
  alF : ∀ a ∈ g'.al, g'.F a = none
  nd : g'.al.Nodup
  box : Paired (BxRel cad g'.F g'.al H') os' g'.al
/-- ahead of a call -/
structure Inp (cad : Nat → Addr) (g : Gh) (H : Hp) (os : Os) (ds : List D) (vs : List V) : Prop where
  sub : Sub g.F H
  alF : ∀ a ∈ g.al, g.F a = none
  nd : g.al.Nodup
  box : Paired (BxRel cad g.F g.al H) os g.al
  args : Rps g.F g.al ds vs
def Ret (g' : Gh) (H H' : Hp) (d : D) (fr : Bool) (v : V) : Prop :=
  if (fr && d.cell) = true then ∃ a, v = .ref a ∧ g'.F a = none ∧ a ∉ g'.al ∧ H a = none ∧ Cel g'.F g'.al H' a d else Rp g'.F g'.al d v
def PostC (cad : Nat → Addr) (g : Gh) (H : Hp) (Q : VK) (E : XK) : R Os (D × Bool) → Prop
  | .ok a os' => ∀ g' H' v, Out cad g H g' H' os' → Ret g' H H' a.1 a.2 v → Q v H'
  | .exc c x os' => ∀ g' H' cls dd, Out cad g H g' H' os' → XR cad g' c x cls dd H' → E cls dd H'
  | .stuck => False
/-- a def's promise: it does what cl says -/
def spR (cad : Nat → Addr) (n : Nat) (cl : List D → Os → R Os (D × Bool)) : Sp := fun vs H Q E => ∃ (g : Gh) (os : Os) (ds : List D), Inp cad g H os ds vs ∧ ds.length = n ∧ PostC cad g H Q E (cl ds os)

section
variable {w : Wd} {xr : Nat → D → V → Prop} {X : Cx} {W : WX} {b : Bs} {g g2 : Gh} {z z2 : Z} {σ : St} {H H2 : Hp}
theorem Sim.out (S : Sim w xr b g z σ H) {g' : Gh} {H' : Hp} {os' : Os} (o : Out w.cad g H g' H' os') : Sim w xr b g' { z with os := os' } σ H' := by
  refine ⟨o.sub, fun a ha => ?_, fun a u e n => o.st.keep a u (S.kept a u e n) fun q => ?_, S.pF.trans o.st.F, S.pre.trans o.st.al, fun a ha => ?_, o.alF, o.nd, o.box, S.len, S.ln, fun i e he => ?_, S.dis, fun a ha => ?_⟩
  · rcases o.newF a ha with h | h
    · exact S.new a h
    · exact .inr (S.freshH h)
  · rcases S.alnew a q with h | h
    · exact n h
    · rw [e] at h; cases h
  · rcases o.st.alnew a ha with h | h
    · exact S.alnew a h
    · exact .inr (S.freshH h)
  · refine (S.ent i e he).mono o.st fun a v e1 ho ev => ?_
    cases e with
    | no => cases ho
    | ex c x => cases ho
    | val d fr =>
      obtain ⟨a', h1, h2, h3⟩ := S.ownAt he ho
      rw [h1] at e1; cases e1; cases ev
      cases hf : g'.F a with
      | none => rfl
      | some u =>
        rcases o.newF a (by rw [hf]; exact fun q => by cases q) with q | q
        · exact absurd h3.nF q
        · obtain ⟨u', hu⟩ := h3.cl.there
          rw [hu] at q; cases q
  · obtain ⟨h1, h2, u, h3⟩ := S.rs a ha
    refine ⟨?_, fun q => ?_, u, o.st.keep a u h3 h2⟩
    · cases hf : g'.F a with
      | none => rfl
      | some u' =>
        rcases o.newF a (by rw [hf]; exact fun q => by cases q) with q | q
        · exact absurd h1 q
        · rw [h3] at q; cases q
    · rcases o.st.alnew a q with h | h
      · exact h2 h
      · rw [h3] at h; cases h
theorem Sim.inp (S : Sim w xr b g z σ H) {ds : List D} {vs : List V} (r : Rps g.F g.al ds vs) : Inp w.cad g H z.os ds vs := ⟨S.sub, S.alF, S.nd, S.box, r⟩
theorem Ret.tmp (S : Sim w xr b g z σ H) {g' : Gh} {H' H0 : Hp} {os' : Os} (o : Out w.cad g H g' H' os') {d : D} {fr : Bool} {v : V} (r : Ret g' H H' d fr v) (h0 : ∀ a, H a = none → H0 a = none) : Tmp w b g' { z with os := os' } σ H0 H' d fr v := by
  unfold Ret at r
  unfold Tmp
  split
  · rename_i hc
    rw [if_pos hc] at r
    obtain ⟨a, rfl, h1, h2, h3, h4⟩ := r
    refine ⟨a, rfl, ⟨h1, h2, S.freshH h3, S.freshR h3, h4⟩, fun i e he ho q => ?_, h0 a h3⟩
    cases e with
    | no => cases ho
    | ex c x => cases ho
    | val d' fr' =>
      obtain ⟨a', q1, q2, q3⟩ := S.ownAt he ho
      rw [q2] at q; cases q
      obtain ⟨u, hu⟩ := q3.cl.there
      rw [h3] at hu; cases hu
  · rename_i hc
    rw [if_neg hc] at r
    exact r
/-- what a call asks, from what is wanted behind it -/
theorem call_hr {f : Nat} {cf : CF} {Q : VK} {ds : List D} {vs : List V} {n : Nat} (S : Sim w xr b g z σ H) (r : Rps g.F g.al ds vs) (hn : ds.length = n) (k : PostE w xr W b g σ H Q (callZ cf f ds z)) : spR w.cad n (cf.call f) vs H Q (WE W σ) := by
  refine ⟨g, z.os, ds, S.inp r, hn, ?_⟩
  unfold callZ at k
  cases e : cf.call f ds z.os with
  | stuck => rw [e] at k; exact k
  | ok a os' =>
    rw [e] at k
    exact fun g' H' v o rt => k g' v H' o.st (S.out o) (rt.tmp S o fun _ h => h)
  | exc c x os' =>
    rw [e] at k
    exact fun g' H' cls dd o x => k g' cls dd H' o.st (S.out o) x
/-- a def is called by its name -/
theorem s_call {cf : CF} {f n lv : Nat} {x : Str} {fa : Addr} {fd : FuncData} {ps : List Str} {e : Expr} {es : List Expr} {is : List E} {p pos : Pos} (tk : Takes X W) (F : FnOk X.prog X.w X.K X.mg X.base (L2.CX X.prog X.w) lv fa fd ps (spR w.cad n (cf.call f))) (hr : Room lv X.A)
    (hg : Gl X x) (hm : X.mg x = some (.ref fa)) (hk : PySem.W.keepIn X.K (.ref fa) = true) (hb : Binds X.K fd ps []) (hdb : (x == ("__debug__" : Str)) = false) (hs : Expr.star e = false) (hs2 : es.all (fun e => !Expr.star e) = true) (hl : is.length = n) (ha : SndAF w xr X W (e :: es) (evalEs cf is)) :
    SndE w xr X W (.Call (.Name x p) (e :: es) [] pos) (evalE cf (.call f is)) := by
  obtain ⟨t, pa, qa⟩ := ha
  refine ⟨_, pe_callS F hr hg hm hk hb (fun σ => passAt tk σ) pa hdb (star_ok hs _ _) (star_any _ _ _ hs2), fun b g z σ H Q S k => qa b g z σ H _ S ?_⟩
  simp only [evalE] at k
  cases r : evalEs cf is z with
  | stuck => rw [r] at k; exact k
  | exc c x z' => rw [r] at k; exact k
  | ok ds z1 =>
    rw [r] at k
    intro g1 vs H1 st1 S1 rs
    exact call_hr S1 rs (by rw [evalEs_length _ _ _ _ r, hl]) (PostE.step S1 st1 k)
end
end Vi

namespace Vi
open PySem L2

section
variable {w : Wd} {xr : Nat → D → V → Prop} {X : Cx} {W : WX} {b : Bs} {g g2 : Gh} {z z2 : Z} {σ : St} {H H2 : Hp}

/-- a value comes into a slot -/
theorem Sim.assign (S : Sim w xr b g z σ H) {i : Nat} {d : D} {fr : Bool} {v : V} (hi : i < z.env.length) (h : ValRel w b g H d fr v) (off : (fr && d.cell) = true → ∀ a, v = .ref a → Off z σ a) :
    Sim w xr b g { z with env := z.env.set i (.val d fr) } (σ.set i (some v)) H := by
  have hi' : i < σ.length := by rw [← S.len]; exact hi
  refine ⟨S.sub, S.new, S.kept, S.pF, S.pre, S.alnew, S.alF, S.nd, S.box, by simp [S.len], by simp [S.ln], fun j e he => ?_, fun j k e e' hjk h1 h2 o1 o2 => ?_, S.rs⟩
  · by_cases hj : i = j
    · subst hj
      rw [List.getElem?_set_self hi] at he
      cases he
      rw [List.getElem?_set_self hi']
      exact ⟨v, rfl, h⟩
    · rw [List.getElem?_set_ne hj] at he ⊢
      exact S.ent j e he
  · have ad : ∀ {j : Nat}, i ≠ j → sad (σ.set i (some v)) j = sad σ j := fun {j} hj => by
      unfold sad; rw [List.getElem?_set_ne hj]
    have ai : ∀ {a : Addr}, sad (σ.set i (some v)) i = some a → v = .ref a := fun {a} q => by
      unfold sad at q
      rw [List.getElem?_set_self hi'] at q
      cases v <;> simp at q
      rw [q]
    by_cases hj : i = j
    · subst hj
      have hk : i ≠ k := hjk
      rw [List.getElem?_set_self hi] at h1; cases h1
      rw [List.getElem?_set_ne hk] at h2
      rw [ad hk]
      intro q
      obtain ⟨a, q1, q2, q3⟩ : ∃ a, σ[k]? = some (some (.ref a)) ∧ sad σ k = some a ∧ True := by
        cases e' with
        | no => cases o2
        | ex c x => cases o2
        | val d' fr' =>
          obtain ⟨a, q1, q2, _⟩ := S.ownAt h2 o2
          exact ⟨a, q1, q2, trivial⟩
      rw [q2] at q
      have ev := ai q
      exact off o1 a ev k e' h2 o2 q2
    · by_cases hk : i = k
      · subst hk
        rw [List.getElem?_set_self hi] at h2; cases h2
        rw [List.getElem?_set_ne hj] at h1
        rw [ad hj]
        intro q
        obtain ⟨a, q1, q2, q3⟩ : ∃ a, σ[j]? = some (some (.ref a)) ∧ sad σ j = some a ∧ True := by
          cases e with
          | no => cases o1
          | ex c x => cases o1
          | val d' fr' =>
            obtain ⟨a, q1, q2, _⟩ := S.ownAt h1 o1
            exact ⟨a, q1, q2, trivial⟩
        rw [q2] at q
        have ev := ai q.symm
        exact off o2 a ev j e h1 o1 q2
      · rw [List.getElem?_set_ne hj] at h1
        rw [List.getElem?_set_ne hk] at h2
        rw [ad hj, ad hk]
        exact S.dis j k e e' hjk h1 h2 o1 o2
theorem Sim.assignF (S : Sim w xr b g z σ H) {i : Nat} {d : D} {v : V} (hi : i < z.env.length) (h : Rp g.F g.al d v) : Sim w xr b g { z with env := z.env.set i (.val d false) } (σ.set i (some v)) H :=
  S.assign hi (by unfold ValRel; rw [if_neg (by simp)]; exact h) fun q => by simp at q
theorem Sim.assignT (S : Sim w xr b g z σ H) {i : Nat} {d : D} {fr : Bool} {v : V} {H0 : Hp} (hi : i < z.env.length) (h : Tmp w b g z σ H0 H d fr v) : Sim w xr b g { z with env := z.env.set i (.val d fr) } (σ.set i (some v)) H := by
  unfold Tmp at h
  split at h
  · rename_i hc
    obtain ⟨a, rfl, o, off, _⟩ := h
    exact S.assign hi (by unfold ValRel; rw [if_pos hc]; exact ⟨a, rfl, o⟩) fun _ c q => by cases q; exact off
  · rename_i hc
    exact S.assign hi (by unfold ValRel; rw [if_neg hc]; exact h) fun q => absurd q hc

/-! ### targets -/
theorem wipe_set {i : Nat} {x : Option V} : ∀ {vs : List Nat} {σ : St}, i ∈ vs → wipe (σ.set i x) vs = wipe σ vs
  | v :: vs, σ, h => by
    unfold wipe
    by_cases hi : i ∈ vs
    · rw [wipe_set hi]
    · have e : i = v := by
        rcases List.mem_cons.mp h with e | e
        · exact e
        · exact absurd e hi
      subst e
      have : ∀ (us : List Nat) (τ : St), i ∉ us → wipe (τ.set i x) us = (wipe τ us).set i x := by
        intro us
        induction us with
        | nil => intro τ _; rfl
        | cons u us ih =>
          intro τ hu
          simp only [List.mem_cons, not_or] at hu
          unfold wipe
          rw [ih τ hu.2, List.set_comm _ _ hu.1]
      rw [this vs σ hi, List.set_set]
def SndG (w : Wd) (xr : Nat → D → V → Prop) (X : Cx) (tg : Expr) (t : Tg) : Prop :=
  ∃ gt, PG X tg gt ∧ ∀ b g z σ H d v env' (Q : St → Hp → Prop), Sim w xr b g z σ H → Rp g.F g.al d v → setT t d z.env = some env' →
    (∀ σ', Sim w xr b g { z with env := env' } σ' H → (∀ vs, (∀ i ∈ t.slots, i ∈ vs) → wipe σ' vs = wipe σ vs) → Q σ' H) → gt v σ H Q
def SndGs (w : Wd) (xr : Nat → D → V → Prop) (X : Cx) (tgs : List Expr) (ts : List Tg) : Prop :=
  ∃ gt, PGs X tgs gt ∧ ∀ b g z σ H ds vs env' (Q : St → Hp → Prop), Sim w xr b g z σ H → Rps g.F g.al ds vs → setTs ts ds z.env = some env' →
    (∀ σ', Sim w xr b g { z with env := env' } σ' H → (∀ us, (∀ i ∈ slotsL ts, i ∈ us) → wipe σ' us = wipe σ us) → Q σ' H) → gt vs σ H Q
theorem g_nm {i : Nat} {x : Str} {pos : Pos} (hm : X.N.length = w.m) (hN : X.N.Nodup) (hi : X.N[i]? = some x) (hx : Loc X.env.scope x) (hf : X.fn x = true ∨ X.env.scope.names.lookup x = some .local) : SndG w xr X (.Name x pos) (.nm i) := by
  refine ⟨_, pg_name hN hi hx hf, fun b g z σ H d v env' Q S r e k => ?_⟩
  simp only [setT] at e
  cases e
  have hlt : i < z.env.length := by
    rw [S.len, S.ln, ← hm]; exact (List.getElem?_eq_some_iff.mp hi).1
  refine k _ (S.assignF hlt r) fun vs hv => wipe_set (hv i (by simp [Tg.slots]))
theorem gs_nil : SndGs w xr X [] [] := by
  refine ⟨_, pgs_nil, fun b g z σ H ds vs env' Q S r e k => ?_⟩
  cases ds with
  | nil =>
    simp only [Rps] at r
    simp only [setTs] at e
    cases e
    exact ⟨r, k σ S fun _ _ => rfl⟩
  | cons d ds => simp [setTs] at e
theorem gs_cons {e : Expr} {es : List Expr} {t : Tg} {ts : List Tg} (hs : (assignEach (e :: es) X.env).map (·.2) = assign e X.env :: (assignEach es X.env).map (·.2)) (h : SndG w xr X e t) (hr : SndGs w xr X es ts) : SndGs w xr X (e :: es) (t :: ts) := by
  obtain ⟨t1, p1, q1⟩ := h
  obtain ⟨t2, p2, q2⟩ := hr
  refine ⟨_, pgs_cons p1 p2 hs, fun b g z σ H ds vs env' Q S r he k => ?_⟩
  cases ds with
  | nil => simp [setTs] at he
  | cons d ds =>
    simp only [Rps] at r
    obtain ⟨v, us, rfl, r1, r2⟩ := r
    simp only [setTs] at he
    obtain ⟨env1, e1, e2⟩ := Option.bind_eq_some_iff.mp he
    refine ⟨v, us, rfl, q1 b g z σ H d v env1 _ S r1 e1 fun σ1 S1 w1 => ?_⟩
    refine q2 b g { z with env := env1 } σ1 H ds us env' Q S1 r2 e2 fun σ2 S2 w2 => ?_
    refine k σ2 S2 fun us hu => ?_
    rw [w2 us fun i hi => hu i (by simp only [slotsL]; exact List.mem_append_right _ hi), w1 us fun i hi => hu i (by simp only [slotsL]; exact List.mem_append_left _ hi)]
theorem g_tp {es : List Expr} {ts : List Tg} {k0 : Nat} {pos : Pos} (hc : X.calm = true) (hn : (assignEach es X.env).length = ts.length) (hst : (assignEach es X.env).findIdx? (·.1) = none) (h : SndGs w xr X es ts) : SndG w xr X (.Tuple es k0 pos) (.tp ts) := by
  obtain ⟨gt, p, q⟩ := h
  refine ⟨_, pg_tup hc p hn hst, fun b g z σ H d v env' Q S r e k => ?_⟩
  simp only [setT] at e
  cases d with
  | tup ds =>
    simp only [Rp] at r
    obtain ⟨a, vs, rfl, r1, r2⟩ := r
    have len : ∀ (ts : List Tg) (ds : List D) (env env' : List Ent), setTs ts ds env = some env' → ds.length = ts.length := by
      intro ts
      induction ts with
      | nil => intro ds env env' h; cases ds with | nil => rfl | cons d ds => simp [setTs] at h
      | cons t ts ih =>
        intro ds env env' h
        cases ds with
        | nil => simp [setTs] at h
        | cons d ds =>
          simp only [setTs] at h
          obtain ⟨env1, e1, e2⟩ := Option.bind_eq_some_iff.mp h
          rw [List.length_cons, List.length_cons, ih _ _ _ e2]
    refine ⟨a, vs, rfl, SqT.of (S.sub _ _ r1), by rw [Rps.length r2]; exact len _ _ _ _ e, q b g z σ H ds vs env' Q S r2 e fun σ' S' w' => k σ' S' fun us hu => w' us fun i hi => hu i (by simp only [Tg.slots]; exact hi)⟩
  | _ => simp at e
end
end Vi

namespace Vi
open PySem L2

section
variable {w : Wd} {xr : Nat → D → V → Prop} {X : Cx} {W : WX} {b : Bs} {g g2 : Gh} {z z2 : Z} {σ : St} {H H2 : Hp}

/-! ### what is walked -/
def noIt : It := ⟨fun _ _ => False, fun _ _ _ _ => True, fun _ _ => False⟩
def Jof (K : PySem.W.Frag) (k : ItK) (ds : List D) (vs : List V) (n : Nat) : It := match k, ds, vs with
  | .val, [.str s], _ => Its s
  | .val, [.tup _], [.ref a] => Itt K a
  | .val, [_], [.ref a] => Itl K a
  | .range, [.int b], _ => Itr 0 b.toNat
  | .range, [.int a, .int b], _ => Itr a (b - a).toNat
  | .range, [.int a, .int b, .int c], _ => Itc a c ((b - a + c - 1) / c).toNat
  | .enum, [_], [.ref a] => Ite K a
  | .zip, [_, _], [.ref a, .ref c] => Itz K a c
  | .rev, [_], [.ref a] => Itv K a n
  | _, _, _ => noIt
/-- J feeds the items xs, as things stand -/
structure Fed (J : It) (g : Gh) (H : Hp) (xs : List D) : Prop where
  stop : J.stop xs.length H
  go : ∀ i, i < xs.length → J.go i H
  yld : ∀ (i : Nat) (d : D) (x : V) (H' : Hp), xs[i]? = some d → J.yld i H x H' → (H' = H ∧ Rp g.F g.al d x) ∨ ∃ p es us, d = .tup es ∧ x = .ref p ∧ H p = none ∧ H' = upd H p (.tup us) ∧ Rps g.F g.al es us
theorem sq_at {K : PySem.W.Frag} {a : Addr} {ds : List D} {vs : List V} (h : Rd H a (.lst vs)) (r : Rps g.F g.al ds vs) {i : Nat} {x : V} {d : D} (hd : ds[i]? = some d) (hx : ∀ xs, SqL K H a xs → xs[i]? = some x) : Rp g.F g.al d x := by
  obtain ⟨v, h1, h2⟩ := Rps.get r hd
  have := hx vs (.inl h)
  rw [h1] at this; cases this
  exact h2
theorem fed_list {K : PySem.W.Frag} {a : Addr} {ds : List D} {vs : List V} (h : Rd H a (.lst vs)) (r : Rps g.F g.al ds vs) : Fed (Itl K a) g H ds where
  stop := ⟨vs, .inl h, by rw [Rps.length r]; exact Nat.le_refl _⟩
  go := fun i hi => ⟨vs, vs[i]'(by rw [Rps.length r]; exact hi), .inl h, by simp⟩
  yld := fun i d x H' hd hy => .inl ⟨hy.1, sq_at h r hd hy.2⟩
theorem fed_tup {K : PySem.W.Frag} {a : Addr} {ds : List D} {vs : List V} (h : H a = some (.tup vs)) (r : Rps g.F g.al ds vs) : Fed (Itt K a) g H ds where
  stop := ⟨vs, SqT.of h, by rw [Rps.length r]; exact Nat.le_refl _⟩
  go := fun i hi => ⟨vs, vs[i]'(by rw [Rps.length r]; exact hi), SqT.of h, by simp⟩
  yld := fun i d x H' hd hy => .inl ⟨hy.1, by
    obtain ⟨v, h1, h2⟩ := Rps.get r hd
    have := hy.2 vs (SqT.of h)
    rw [h1] at this; cases this
    exact h2⟩
theorem range_get {n i : Nat} {f : Nat → D} {d : D} (h : ((List.range n).map f)[i]? = some d) : i < n ∧ d = f i := by
  rw [List.getElem?_map] at h
  obtain ⟨j, h1, h2⟩ := Option.map_eq_some_iff.mp h
  obtain ⟨h3, h4⟩ := List.getElem?_eq_some_iff.mp h1
  rw [List.length_range] at h3
  rw [List.getElem_range] at h4
  subst h4
  exact ⟨h3, h2.symm⟩
theorem feed {k : ItK} {ds xs : List D} {vs : List V} (S : Sim w xr b g z σ H) (r : Rbs w g H ds vs) (e : srcOf z.os k ds = some xs) : Fed (Jof X.K k ds vs xs.length) g H xs := by
  unfold srcOf at e
  split at e
  · rename_i s
    cases e
    obtain ⟨v, rfl, rx⟩ := rbs1 r
    obtain ⟨_, hs⟩ := rx.str
    refine ⟨?_, fun i hi => ?_, fun i d x H' hd hy => .inl ⟨hy.1, ?_⟩⟩
    · show s.cps.size ≤ _; simp [signs]
    · show i < s.cps.size; simpa [signs] using hi
    · obtain ⟨c, h1, h2⟩ := hy.2
      unfold signs at hd
      rw [List.getElem?_map] at hd
      obtain ⟨c', h3, h4⟩ := Option.map_eq_some_iff.mp hd
      have : c' = c := by
        rw [← Array.getElem?_toList] at h1
        rw [h3] at h1
        exact Option.some.inj h1
      subst this
      subst h2 h4
      refine rp_str (strOk_of hs fun q hq => ?_) _ _
      have : q = c' := by simpa using hq
      subst this
      exact List.mem_of_getElem? h3
  · rename_i es
    cases e
    obtain ⟨v, rfl, rx⟩ := rbs1 r
    obtain ⟨a, us, rfl, r1, r2⟩ := rx.tup S
    exact fed_tup r1 r2
  · rename_i x hns hnt
    obtain ⟨v, rfl, rx⟩ := rbs1 r
    obtain ⟨a, us, rfl, r1, r2⟩ := rdL_of S rx e
    have : Jof X.K .val [x] [V.ref a] xs.length = Itl X.K a := by
      cases x <;> first | rfl | exact absurd rfl (hns _) | exact absurd rfl (hnt _)
    rw [this]
    exact fed_list r1 r2
  · rename_i j
    split at e
    · cases e
      refine ⟨?_, fun i hi => ?_, fun i d x H' hd hy => .inl ⟨hy.1, ?_⟩⟩
      · show j.toNat ≤ _; simp
      · show i < j.toNat; simpa using hi
      · obtain ⟨h1, h2⟩ := range_get hd
        rw [h2, hy.2, Int.zero_add]
        exact rp_int _ _
    · cases e
  · rename_i i0 j
    split at e
    · cases e
      refine ⟨?_, fun i hi => ?_, fun i d x H' hd hy => .inl ⟨hy.1, ?_⟩⟩
      · show (j - i0).toNat ≤ _; simp
      · show i < (j - i0).toNat; simpa using hi
      · obtain ⟨h1, h2⟩ := range_get hd
        rw [h2, hy.2]
        exact rp_int _ _
    · cases e
  · rename_i i0 j c
    split at e
    · cases e
      refine ⟨?_, fun i hi => ?_, fun i d x H' hd hy => .inl ⟨hy.1, ?_⟩⟩
      · show ((j - i0 + c - 1) / c).toNat ≤ _; simp
      · show i < ((j - i0 + c - 1) / c).toNat; simpa using hi
      · obtain ⟨h1, h2⟩ := range_get hd
        rw [h2, hy.2]
        exact rp_int _ _
    · cases e
  · rename_i x
    obtain ⟨es, h1, rfl⟩ := Option.map_eq_some_iff.mp e
    obtain ⟨v, rfl, rx⟩ := rbs1 r
    obtain ⟨a, us, rfl, r1, r2⟩ := rdL_of S rx h1
    have hl := Rps.length r2
    refine ⟨⟨us, .inl r1, by rw [List.length_mapIdx, hl]; exact Nat.le_refl _⟩, fun i hi => ?_, fun i d x' H' hd hy => .inr ?_⟩
    · rw [List.length_mapIdx] at hi
      exact ⟨us, us[i]'(by rw [hl]; exact hi), .inl r1, by simp⟩
    · obtain ⟨T, y, rfl, hT, rfl, hy⟩ := hy
      rw [List.getElem?_mapIdx] at hd
      obtain ⟨d0, h3, h4⟩ := Option.map_eq_some_iff.mp hd
      exact ⟨T, [.int i, d0], [.int i, y], h4.symm, rfl, hT, rfl, Rps.cons (rp_int _ _) (Rps.cons (sq_at r1 r2 h3 hy) Rps.nil)⟩
  · rename_i x y
    obtain ⟨v, u, rfl, rx, ry⟩ := rbs2 r
    split at e
    · rename_i es fs h1 h2
      cases e
      obtain ⟨a, us, rfl, r1, r2⟩ := rdL_of S rx h1
      obtain ⟨c, ws, rfl, r3, r4⟩ := rdL_of S ry h2
      have hl := Rps.length r2
      have hl' := Rps.length r4
      refine ⟨⟨us, ws, .inl r1, .inl r3, ?_⟩, fun i hi => ?_, fun i d x' H' hd hy => .inr ?_⟩
      · rw [List.length_map, List.length_zip, hl, hl']; omega
      · rw [List.length_map, List.length_zip] at hi
        exact ⟨us, ws, us[i]'(by omega), ws[i]'(by omega), .inl r1, .inl r3, by simp, by simp⟩
      · obtain ⟨T, y1, y2, rfl, hT, rfl, hy1, hy2⟩ := hy
        rw [List.getElem?_map] at hd
        obtain ⟨p, h3, h4⟩ := Option.map_eq_some_iff.mp hd
        obtain ⟨h5, h6⟩ := List.getElem?_zip_eq_some.mp h3
        exact ⟨T, [p.1, p.2], [y1, y2], h4.symm, rfl, hT, rfl, Rps.cons (sq_at r1 r2 h5 hy1) (Rps.cons (sq_at r3 r4 h6 hy2) Rps.nil)⟩
    · cases e
  · rename_i x
    obtain ⟨es, h1, rfl⟩ := Option.map_eq_some_iff.mp e
    obtain ⟨v, rfl, rx⟩ := rbs1 r
    obtain ⟨a, us, rfl, r1, r2⟩ := rdL_of S rx h1
    have hl := Rps.length r2
    refine ⟨?_, fun i hi => ?_, fun i d x' H' hd hy => .inl ⟨hy.1, ?_⟩⟩
    · show es.reverse.length ≤ _; exact Nat.le_refl _
    · rw [List.length_reverse] at hi
      refine ⟨by rw [List.length_reverse]; exact hi, us, us[es.reverse.length - 1 - i]'(by rw [List.length_reverse]; omega), .inl r1, by simp⟩
    · have hi : i < es.length := by
        have := (List.getElem?_eq_some_iff.mp hd).1
        rwa [List.length_reverse] at this
      rw [List.getElem?_reverse hi] at hd
      have h2 := hy.2
      rw [List.length_reverse] at h2
      exact sq_at r1 r2 hd h2
  · cases e
end
end Vi

namespace Vi
open PySem L2

section
variable {w : Wd} {xr : Nat → D → V → Prop} {X : Cx} {W : WX} {b : Bs} {g g2 : Gh} {z z2 : Z} {σ : St} {H H2 : Hp}

def PostI (w : Wd) (xr : Nat → D → V → Prop) (K : PySem.W.Frag) (W : WX) (b : Bs) (g : Gh) (σ : St) (H : Hp) (k : ItK) (N : It → Hp → Prop) : Vi.R Z (List D) → Prop
  | .ok ds z' => match srcOf z'.os k ds with
    | some xs => ∀ g' H' vs, Stp g H g' H' → Sim w xr b g' z' σ H' → Rbs w g' H' ds vs → N (Jof K k ds vs xs.length) H'
    | none => False
  | .exc c x z' => ∀ g' cls dd H', Stp g H g' H' → Sim w xr b g' z' σ H' → XR w.cad g' c x cls dd H' → W cls dd σ H'
  | .stuck => False
/-- the same of frozen things -/
def PostIF (w : Wd) (xr : Nat → D → V → Prop) (K : PySem.W.Frag) (W : WX) (b : Bs) (g : Gh) (σ : St) (H : Hp) (k : ItK) (N : It → Hp → Prop) : Vi.R Z (List D) → Prop
  | .ok ds z' => match srcOf z'.os k ds with
    | some xs => ∀ g' H' vs, Stp g H g' H' → Sim w xr b g' z' σ H' → Rps g'.F g'.al ds vs → N (Jof K k ds vs xs.length) H'
    | none => False
  | .exc c x z' => ∀ g' cls dd H', Stp g H g' H' → Sim w xr b g' z' σ H' → XR w.cad g' c x cls dd H' → W cls dd σ H'
  | .stuck => False
def SndI (w : Wd) (xr : Nat → D → V → Prop) (X : Cx) (W : WX) (tg e : Expr) (k : ItK) (f : Z → R Z (List D)) : Prop :=
  ∃ wi, PI X tg e wi ∧ ∀ b g z σ H N, Sim w xr b g z σ H → PostI w xr X.K W b g σ H k N (f z) → wi σ H N
def SndIF (w : Wd) (xr : Nat → D → V → Prop) (X : Cx) (W : WX) (tg e : Expr) (k : ItK) (f : Z → R Z (List D)) : Prop :=
  ∃ wi, PI X tg e wi ∧ ∀ b g z σ H N, Sim w xr b g z σ H → PostIF w xr X.K W b g σ H k N (f z) → wi σ H N
theorem PI.or {tg e : Expr} {w1 w2 : TI} (h1 : PI X tg e w1) (h2 : PI X tg e w2) : PI X tg e (fun σ H N => w1 σ H N ∨ w2 σ H N) :=
  ⟨fun pins s σ H N I h => h.elim (h1.run pins s σ H N I) (h2.run pins s σ H N I)⟩
theorem Rbs.ofF (S : Sim w xr b g z σ H) : ∀ {ds : List D} {vs : List V}, Rps g.F g.al ds vs → Rbs w g H ds vs
  | [], vs, h => by simpa [Rps, Rbs] using h
  | d :: ds, vs, h => by
    simp only [Rps] at h
    obtain ⟨v, r, rfl, h1, h2⟩ := h
    exact ⟨v, r, rfl, Rb.of S h1, Rbs.ofF S h2⟩
/-- the source by its values: v ↦ what the three walks ask -/
theorem val_src {x : D} {v : V} {xs : List D} {N : It → Hp → Prop} (S : Sim w xr b g z σ H) (rx : Rb w g H x v) (e : srcOf z.os .val [x] = some xs) (k : N (Jof X.K .val [x] [v] xs.length) H) :
    (∃ a, v = .ref a ∧ (∃ xs, SqL X.K H a xs) ∧ N (Itl X.K a) H) ∨ ((∃ a, v = .ref a ∧ (∃ xs, SqT X.K H a xs) ∧ N (Itt X.K a) H) ∨ (∃ s, v = .str s ∧ N (Its s) H)) := by
  cases x with
  | str s =>
    obtain ⟨rfl, hs⟩ := rx.str
    exact .inr (.inr ⟨s, rfl, k⟩)
  | tup ds =>
    obtain ⟨a, us, rfl, r1, r2⟩ := rx.tup S
    exact .inr (.inl ⟨a, rfl, ⟨us, SqT.of r1⟩, k⟩)
  | lst ds =>
    obtain ⟨a, us, rfl, r1, r2⟩ := rx
    exact .inl ⟨a, rfl, ⟨us, .inl (unbox_sub.rd r1)⟩, k⟩
  | box i =>
    simp only [srcOf] at e
    obtain ⟨a, us, rfl, r1, r2⟩ := rdL_of S rx e
    exact .inl ⟨a, rfl, ⟨us, .inl r1⟩, k⟩
  | _ => simp [srcOf, rdL] at e
theorem i_val {cf : CF} {tg e : Expr} {i : E} (h : SndB w xr X W e fun z => fst1 (evalE cf i z)) : SndI w xr X W tg e .val (evalEs cf [i]) := by
  obtain ⟨t, p, q⟩ := h
  refine ⟨_, PI.or (pi_list p) (PI.or (pi_tup p) (pi_str p)), fun b g z σ H N S k => ?_⟩
  simp only [evalEs] at k
  cases r : evalE cf i z with
  | stuck => rw [r] at k; exact k.elim
  | exc c x z' =>
    rw [r] at k
    exact .inl (q b g z σ H _ S (by simp only [fst1]; rw [r]; exact k))
  | ok x z1 =>
    rw [r] at k
    simp only [R.bind_ok, PostI] at k
    split at k
    · rename_i xs e
      obtain ⟨d, fr⟩ := x
      have fin : ∀ g1 v H1, Stp g H g1 H1 → Sim w xr b g1 z1 σ H1 → Rb w g1 H1 d v → N (Jof X.K .val [d] [v] xs.length) H1 := fun g1 v H1 st1 S1 rx => k g1 H1 [v] st1 S1 ⟨v, [], rfl, rx, rfl⟩
      have hq := fun Q h => q b g z σ H Q S h
      simp only [fst1] at hq
      rw [r] at hq
      simp only [R.bind_ok] at hq
      cases d with
      | str s =>
        refine .inr (.inr (hq _ fun g1 v H1 st1 S1 rx => ?_))
        obtain ⟨rfl, hs⟩ := rx.str
        exact ⟨s, rfl, fin g1 _ H1 st1 S1 rx⟩
      | tup ds =>
        refine .inr (.inl (hq _ fun g1 v H1 st1 S1 rx => ?_))
        have rx' := rx
        obtain ⟨a, us, rfl, r1, r2⟩ := rx.tup S1
        exact ⟨a, rfl, ⟨us, SqT.of r1⟩, fin g1 _ H1 st1 S1 rx'⟩
      | lst ds =>
        refine .inl (hq _ fun g1 v H1 st1 S1 rx => ?_)
        have rx' := rx
        obtain ⟨a, us, rfl, r1, r2⟩ := rx
        exact ⟨a, rfl, ⟨us, .inl (unbox_sub.rd r1)⟩, fin g1 _ H1 st1 S1 rx'⟩
      | box i =>
        refine .inl (hq _ fun g1 v H1 st1 S1 rx => ?_)
        have rx' := rx
        simp only [srcOf] at e
        obtain ⟨a, us, rfl, r1, r2⟩ := rdL_of S1 rx e
        exact ⟨a, rfl, ⟨us, .inl r1⟩, fin g1 _ H1 st1 S1 rx'⟩
      | _ => simp [srcOf, rdL] at e
    · exact k.elim
theorem if_val {cf : CF} {tg e : Expr} {i : E} (h : SndF w xr X W e fun z => fst1 (evalE cf i z)) : SndIF w xr X W tg e .val (evalEs cf [i]) := by
  obtain ⟨t, p, q⟩ := h
  refine ⟨_, PI.or (pi_list p) (PI.or (pi_tup p) (pi_str p)), fun b g z σ H N S k => ?_⟩
  simp only [evalEs] at k
  cases r : evalE cf i z with
  | stuck => rw [r] at k; exact k.elim
  | exc c x z' =>
    rw [r] at k
    exact .inl (q b g z σ H _ S (by simp only [fst1]; rw [r]; exact k))
  | ok x z1 =>
    rw [r] at k
    simp only [R.bind_ok, PostIF] at k
    split at k
    · rename_i xs e
      obtain ⟨d, fr⟩ := x
      have fin : ∀ g1 v H1, Stp g H g1 H1 → Sim w xr b g1 z1 σ H1 → Rp g1.F g1.al d v → N (Jof X.K .val [d] [v] xs.length) H1 := fun g1 v H1 st1 S1 rx => k g1 H1 [v] st1 S1 (Rps.cons rx Rps.nil)
      have hq := fun Q h => q b g z σ H Q S h
      simp only [fst1] at hq
      rw [r] at hq
      simp only [R.bind_ok] at hq
      cases d with
      | str s =>
        refine .inr (.inr (hq _ fun g1 v H1 st1 S1 rx => ?_))
        obtain ⟨rfl, hs⟩ := (Rb.of S1 rx).str
        exact ⟨s, rfl, fin g1 _ H1 st1 S1 rx⟩
      | tup ds =>
        refine .inr (.inl (hq _ fun g1 v H1 st1 S1 rx => ?_))
        obtain ⟨a, us, rfl, r1, r2⟩ := (Rb.of S1 rx).tup S1
        exact ⟨a, rfl, ⟨us, SqT.of r1⟩, fin g1 _ H1 st1 S1 rx⟩
      | lst ds =>
        refine .inl (hq _ fun g1 v H1 st1 S1 rx => ?_)
        obtain ⟨a, us, rfl, r1, r2⟩ := Rb.of S1 rx
        exact ⟨a, rfl, ⟨us, .inl (unbox_sub.rd r1)⟩, fin g1 _ H1 st1 S1 rx⟩
      | box i =>
        refine .inl (hq _ fun g1 v H1 st1 S1 rx => ?_)
        simp only [srcOf] at e
        obtain ⟨a, us, rfl, r1, r2⟩ := rdL_of S1 (Rb.of S1 rx) e
        exact ⟨a, rfl, ⟨us, .inl r1⟩, fin g1 _ H1 st1 S1 rx⟩
      | _ => simp [srcOf, rdL] at e
    · exact k.elim

theorem small_up {a c d : Int} (h1 : -(2 ^ 61) ≤ a) (h2 : a < 2 ^ 61) (h3 : -(2 ^ 61) ≤ c) (h4 : c < 2 ^ 61) (h5 : 0 < d) (h6 : d < 1000000) : RgC a c d ((c - a + d - 1) / d).toNat := by
  have e : Builtin.Range.rangeSize a c d = (((c - a + d - 1) / d).toNat : Int) := by
    unfold Builtin.Range.rangeSize
    rw [if_pos h5]
    split
    · rename_i h
      have : (c - a + d - 1) / d = (c - a - 1) / d + 1 := by
        rw [show c - a + d - 1 = (c - a - 1) + 1 * d by omega, Int.add_mul_ediv_right _ _ (by omega)]
      rw [this]
      have : 0 ≤ (c - a - 1) / d := Int.ediv_nonneg (by omega) (by omega)
      omega
    · rename_i h
      have : (c - a + d - 1) / d < 1 := Int.ediv_lt_of_lt_mul h5 (by omega)
      omega
  have hb : (((c - a + d - 1) / d).toNat : Int) ≤ 2 ^ 63 - 1 := by
    have : (c - a + d - 1) / d ≤ 2 ^ 63 - 1 := by
      by_cases hh : 0 ≤ c - a + d - 1
      · exact Int.le_trans (Int.ediv_le_self _ hh) (by omega)
      · have : (c - a + d - 1) / d < 1 := Int.ediv_lt_of_lt_mul h5 (by omega)
        omega
    omega
  refine ⟨by omega, by omega, ?_, e⟩
  unfold Builtin.Range.small
  rw [e, if_pos h5]
  simp only [Builtin.Range.rangeFitsLong, Bool.and_eq_true, Bool.or_eq_true, decide_eq_true_eq, beq_iff_eq]
  omega

/-! range, enumerate, zip, reversed -/
theorem i_call {cf : CF} {k : ItK} {tg e : Expr} {es : List Expr} {is : List E} {r : List V → Hp → (It → Hp → Prop) → Prop} (h : SndA w xr X W es (evalEs cf is)) (hpi : ∀ ta, PA X es ta → PI X tg e (fun σ H N => ta σ H fun vs H1 => r vs H1 N))
    (hr : ∀ b g z σ H N ds xs vs, ds.length = is.length → Sim w xr b g z σ H → Rbs w g H ds vs → srcOf z.os k ds = some xs → N (Jof X.K k ds vs xs.length) H → r vs H N) : SndI w xr X W tg e k (evalEs cf is) := by
  obtain ⟨t, p, q⟩ := h
  refine ⟨_, hpi t p, fun b g z σ H N S kk => q b g z σ H _ S ?_⟩
  cases e : evalEs cf is z with
  | stuck => rw [e] at kk; exact kk.elim
  | exc c x z' => rw [e] at kk; exact kk
  | ok ds z1 =>
    rw [e] at kk
    simp only [PostI] at kk
    split at kk
    · rename_i xs hs
      exact fun g1 vs H1 st1 S1 rs => hr b g1 z1 σ H1 N ds xs vs (evalEs_length _ _ _ _ e) S1 rs hs (kk g1 H1 vs st1 S1 rs)
    · exact kk.elim
theorem if_call {cf : CF} {k : ItK} {tg e : Expr} {es : List Expr} {is : List E} {r : List V → Hp → (It → Hp → Prop) → Prop} (h : SndAF w xr X W es (evalEs cf is)) (hpi : ∀ ta, PA X es ta → PI X tg e (fun σ H N => ta σ H fun vs H1 => r vs H1 N))
    (hr : ∀ b g z σ H N ds xs vs, ds.length = is.length → Sim w xr b g z σ H → Rbs w g H ds vs → srcOf z.os k ds = some xs → N (Jof X.K k ds vs xs.length) H → r vs H N) : SndIF w xr X W tg e k (evalEs cf is) := by
  obtain ⟨t, p, q⟩ := h
  refine ⟨_, hpi t p, fun b g z σ H N S kk => q b g z σ H _ S ?_⟩
  cases e : evalEs cf is z with
  | stuck => rw [e] at kk; exact kk.elim
  | exc c x z' => rw [e] at kk; exact kk
  | ok ds z1 =>
    rw [e] at kk
    simp only [PostIF] at kk
    split at kk
    · rename_i xs hs
      exact fun g1 vs H1 st1 S1 rs => hr b g1 z1 σ H1 N ds xs vs (evalEs_length _ _ _ _ e) S1 (Rbs.ofF S1 rs) hs (kk g1 H1 vs st1 S1 rs)
    · exact kk.elim
def rRng1 : List V → Hp → (It → Hp → Prop) → Prop := fun vs H1 N => ∃ j : Int, vs = [.int j] ∧ -(2 ^ 62) ≤ j ∧ j < 2 ^ 62 ∧ N (Itr 0 j.toNat) H1
def rRng2 : List V → Hp → (It → Hp → Prop) → Prop := fun vs H1 N => ∃ i j : Int, vs = [.int i, .int j] ∧ (-(2 ^ 62) ≤ i ∧ i < 2 ^ 62 ∧ -(2 ^ 62) ≤ j ∧ j < 2 ^ 62) ∧ N (Itr i (j - i).toNat) H1
def rRng3 : List V → Hp → (It → Hp → Prop) → Prop := fun vs H1 N => ∃ (i j c : Int) (n : Nat), vs = [.int i, .int j, .int c] ∧ RgC i j c n ∧ N (Itc i c n) H1
def rEnum (K : PySem.W.Frag) : List V → Hp → (It → Hp → Prop) → Prop := fun vs H1 N => ∃ a xs, vs = [.ref a] ∧ SqL K H1 a xs ∧ N (Ite K a) H1
def rZip (K : PySem.W.Frag) : List V → Hp → (It → Hp → Prop) → Prop := fun vs H1 N => ∃ a b xs ys, vs = [.ref a, .ref b] ∧ SqL K H1 a xs ∧ SqL K H1 b ys ∧ N (Itz K a b) H1
def rRevs (K : PySem.W.Frag) : List V → Hp → (It → Hp → Prop) → Prop := fun vs H1 N => ∃ (a : Addr) (xs : List V), vs = [.ref a] ∧ SqL K H1 a xs ∧ N (Itv K a xs.length) H1
theorem hr_rng1 : ∀ b g z σ H N ds xs vs, ds.length = 1 → Sim w xr b g z σ H → Rbs w g H ds vs → srcOf z.os .range ds = some xs → N (Jof X.K .range ds vs xs.length) H → rRng1 vs H N := by
  intro b g z σ H N ds xs vs hl S r e k
  cases ds with
  | nil => simp at hl
  | cons d ds =>
    cases ds with
    | cons _ _ => simp at hl
    | nil =>
      obtain ⟨v, rfl, rx⟩ := rbs1 r
      cases d with
      | int j =>
        rw [rx.int]
        simp only [srcOf] at e
        split at e
        · rename_i h
          exact ⟨j, rfl, h.1, h.2, k⟩
        · cases e
      | _ => simp [srcOf] at e
theorem hr_rng2 : ∀ b g z σ H N ds xs vs, ds.length = 2 → Sim w xr b g z σ H → Rbs w g H ds vs → srcOf z.os .range ds = some xs → N (Jof X.K .range ds vs xs.length) H → rRng2 vs H N := by
  intro b g z σ H N ds xs vs hl S r e k
  match ds, hl with
  | [d, d'], _ =>
    obtain ⟨v, u, rfl, rx, ry⟩ := rbs2 r
    cases d with
    | int i =>
      cases d' with
      | int j =>
        rw [rx.int, ry.int]
        simp only [srcOf] at e
        split at e
        · rename_i h
          exact ⟨i, j, rfl, h, k⟩
        · cases e
      | _ => simp [srcOf] at e
    | _ => simp [srcOf] at e
theorem hr_rng3 : ∀ b g z σ H N ds xs vs, ds.length = 3 → Sim w xr b g z σ H → Rbs w g H ds vs → srcOf z.os .range ds = some xs → N (Jof X.K .range ds vs xs.length) H → rRng3 vs H N := by
  intro b g z σ H N ds xs vs hl S r e k
  match ds, hl with
  | [d, d', d''], _ =>
    obtain ⟨v, _, rfl, rx, r⟩ := r
    obtain ⟨u, t, rfl, ry, rz⟩ := rbs2 r
    cases d with
    | int i =>
      cases d' with
      | int j =>
        cases d'' with
        | int c =>
          rw [rx.int, ry.int, rz.int]
          simp only [srcOf] at e
          split at e
          · rename_i h
            exact ⟨i, j, c, _, rfl, small_up h.1 h.2.1 h.2.2.1 h.2.2.2.1 h.2.2.2.2.1 h.2.2.2.2.2, k⟩
          · cases e
        | _ => simp [srcOf] at e
      | _ => simp [srcOf] at e
    | _ => simp [srcOf] at e
theorem hr_enum : ∀ b g z σ H N ds xs vs, ds.length = 1 → Sim w xr b g z σ H → Rbs w g H ds vs → srcOf z.os .enum ds = some xs → N (Jof X.K .enum ds vs xs.length) H → rEnum X.K vs H N := by
  intro b g z σ H N ds xs vs hl S r e k
  match ds, hl with
  | [x], _ =>
    simp only [srcOf] at e
    obtain ⟨es, h1, rfl⟩ := Option.map_eq_some_iff.mp e
    obtain ⟨v, rfl, rx⟩ := rbs1 r
    obtain ⟨a, us, rfl, r1, r2⟩ := rdL_of S rx h1
    exact ⟨a, us, rfl, .inl r1, k⟩
theorem hr_zip : ∀ b g z σ H N ds xs vs, ds.length = 2 → Sim w xr b g z σ H → Rbs w g H ds vs → srcOf z.os .zip ds = some xs → N (Jof X.K .zip ds vs xs.length) H → rZip X.K vs H N := by
  intro b g z σ H N ds xs vs hl S r e k
  match ds, hl with
  | [x, y], _ =>
    simp only [srcOf] at e
    obtain ⟨v, u, rfl, rx, ry⟩ := rbs2 r
    split at e
    · rename_i es fs h1 h2
      obtain ⟨a, us, rfl, r1, r2⟩ := rdL_of S rx h1
      obtain ⟨c, ws, rfl, r3, r4⟩ := rdL_of S ry h2
      exact ⟨a, c, us, ws, rfl, .inl r1, .inl r3, k⟩
    · cases e
theorem hr_rev : ∀ b g z σ H N ds xs vs, ds.length = 1 → Sim w xr b g z σ H → Rbs w g H ds vs → srcOf z.os .rev ds = some xs → N (Jof X.K .rev ds vs xs.length) H → rRevs X.K vs H N := by
  intro b g z σ H N ds xs vs hl S r e k
  match ds, hl with
  | [x], _ =>
    simp only [srcOf] at e
    obtain ⟨es, h1, rfl⟩ := Option.map_eq_some_iff.mp e
    obtain ⟨v, rfl, rx⟩ := rbs1 r
    obtain ⟨a, us, rfl, r1, r2⟩ := rdL_of S rx h1
    refine ⟨a, us, rfl, .inl r1, ?_⟩
    have : us.length = es.reverse.length := by rw [Rps.length r2, List.length_reverse]
    rw [this]
    exact k
end
end Vi

namespace Vi
open PySem L2

section
variable {w : Wd} {xr : Nat → D → V → Prop} {X : Cx} {W : WX} {b : Bs} {g g1 g2 : Gh} {z z1 z2 : Z} {σ : St} {H H1 H2 : Hp}

theorem Sim.drop1 (S : Sim w xr b g z σ H) (v : Nat) : Sim w xr b g { z with env := z.env.set v .no } (σ.set v none) H := by
  refine ⟨S.sub, S.new, S.kept, S.pF, S.pre, S.alnew, S.alF, S.nd, S.box, by simp [S.len], by simp [S.ln], fun j e he => ?_, fun j k e e' hjk h1 h2 o1 o2 => ?_, S.rs⟩
  · by_cases hj : v = j
    · subst hj
      by_cases hl : v < z.env.length
      · rw [List.getElem?_set_self hl] at he; cases he; trivial
      · rw [List.getElem?_eq_none (by simpa using hl)] at he; cases he
    · rw [List.getElem?_set_ne hj] at he ⊢
      exact S.ent j e he
  · have f : ∀ {j : Nat} {e : Ent}, (z.env.set v .no)[j]? = some e → e.owns = true → v ≠ j ∧ z.env[j]? = some e := fun {j e} h o => by
      by_cases hj : v = j
      · subst hj
        by_cases hl : v < z.env.length
        · rw [List.getElem?_set_self hl] at h; cases h; cases o
        · rw [List.getElem?_eq_none (by simpa using hl)] at h; cases h
      · exact ⟨hj, by rwa [List.getElem?_set_ne hj] at h⟩
    obtain ⟨n1, q1⟩ := f h1 o1
    obtain ⟨n2, q2⟩ := f h2 o2
    have ad : ∀ {j : Nat}, v ≠ j → sad (σ.set v none) j = sad σ j := fun {j} hj => by
      unfold sad; rw [List.getElem?_set_ne hj]
    rw [ad n1, ad n2]
    exact S.dis j k e e' hjk q1 q2 o1 o2
theorem Sim.wiped (S : Sim w xr b g z σ H) : ∀ vs : List Nat, Sim w xr b g { z with env := wipeE z.env vs } (wipe σ vs) H
  | [] => S
  | v :: vs => by
    have := (S.wiped vs).drop1 v
    exact this
theorem wipe_len (σ : St) (vs : List Nat) : (wipe σ vs).length = σ.length := wipe_length σ vs
theorem wipe_get {i : Nat} : ∀ {vs : List Nat} {σ : St}, i ∉ vs → (wipe σ vs)[i]? = σ[i]?
  | [], σ, _ => rfl
  | v :: vs, σ, h => by
    simp only [List.mem_cons, not_or] at h
    unfold wipe
    rw [List.getElem?_set_ne (Ne.symm h.1), wipe_get h.2]
theorem wipe_at {i : Nat} : ∀ {vs : List Nat} {σ : St}, i ∈ vs → i < σ.length → (wipe σ vs)[i]? = some none
  | v :: vs, σ, h, hl => by
    unfold wipe
    by_cases e : v = i
    · subst e
      rw [List.getElem?_set_self (by rw [wipe_length]; exact hl)]
    · rw [List.getElem?_set_ne e]
      rcases List.mem_cons.mp h with q | q
      · exact absurd q.symm e
      · exact wipe_at q hl
theorem wipe_idem (σ : St) (vs : List Nat) : wipe (wipe σ vs) vs = wipe σ vs := by
  apply List.ext_getElem?
  intro i
  by_cases hi : i ∈ vs
  · by_cases hl : i < σ.length
    · rw [wipe_at hi (by rw [wipe_length]; exact hl), wipe_at hi hl]
    · rw [List.getElem?_eq_none (by rw [wipe_length, wipe_length]; omega), List.getElem?_eq_none (by rw [wipe_length]; omega)]
  · rw [wipe_get hi]
theorem back_get {old env : List Ent} {i : Nat} : ∀ {vs : List Nat}, i ∉ vs → (backE old env vs)[i]? = env[i]?
  | [], _ => rfl
  | v :: vs, h => by
    simp only [List.mem_cons, not_or] at h
    unfold backE
    rw [List.getElem?_set_ne (Ne.symm h.1), back_get h.2]
theorem back_len (old env : List Ent) : ∀ vs : List Nat, (backE old env vs).length = env.length
  | [] => rfl
  | v :: vs => by unfold backE; rw [List.length_set, back_len old env vs]
theorem back_at {old env : List Ent} {i : Nat} {e : Ent} : ∀ {vs : List Nat}, i ∈ vs → (backE old env vs)[i]? = some e → e = .no ∨ (old[i]? = some e ∧ e.owns = false)
  | v :: vs, h, q => by
    unfold backE at q
    by_cases hv : v = i
    · subst hv
      by_cases hl : v < (backE old env vs).length
      · rw [List.getElem?_set_self hl] at q
        cases q
        split
        · rename_i e0 he
          split
          · exact .inl rfl
          · rename_i ho
            exact .inr ⟨by first | exact he | rfl, by simpa using ho⟩
        · exact .inl rfl
      · rw [List.getElem?_eq_none (by simpa using hl)] at q; cases q
    · rw [List.getElem?_set_ne hv] at q
      rcases List.mem_cons.mp h with e' | e'
      · exact absurd e'.symm hv
      · exact back_at e' q
/-- behind a comprehension -/
theorem Sim.back {c : Addr} (S1 : Sim w xr b g1 z1 σ H1) {vs : List Nat} (S : Sim w xr { b with rs := c :: b.rs } g z (wipe σ vs) H) (st : Stp g1 H1 g H) : Sim w xr b g ⟨backE z1.env z.env vs, z.os⟩ σ H := by
  have ent : ∀ (i : Nat) (e : Ent), (backE z1.env z.env vs)[i]? = some e → EntRel w b g H xr e σ[i]? ∧ (e.owns = true → i ∉ vs ∧ z.env[i]? = some e) := fun i e he => by
    by_cases hi : i ∈ vs
    · rcases back_at hi he with rfl | ⟨h1, h2⟩
      · exact ⟨trivial, fun o => by cases o⟩
      · refine ⟨(S1.ent i e h1).mono st fun a v e1 ho _ => (by rw [h2] at ho; cases ho), fun o => (by rw [h2] at o; cases o)⟩
    · rw [back_get hi] at he
      have q := S.ent i e he
      rw [wipe_get hi] at q
      refine ⟨?_, fun _ => ⟨hi, he⟩⟩
      cases e with
      | no => trivial
      | ex c x => exact q
      | val d fr =>
        obtain ⟨v, e1, e2⟩ := q
        refine ⟨v, e1, ?_⟩
        unfold ValRel at e2 ⊢
        split
        · rename_i hc
          rw [if_pos hc] at e2
          obtain ⟨a, ea, o⟩ := e2
          exact ⟨a, ea, ⟨o.nF, o.nB, o.nH, fun q => o.nR (List.mem_cons_of_mem _ q), o.cl⟩⟩
        · rename_i hc
          rw [if_neg hc] at e2
          exact e2
  refine ⟨S.sub, S.new, S.kept, S.pF, S.pre, S.alnew, S.alF, S.nd, S.box, by rw [back_len, S.len, wipe_length], S1.ln, fun i e he => (ent i e he).1, fun i j e e' hij h1 h2 o1 o2 => ?_, fun a ha => S.rs a (List.mem_cons_of_mem _ ha)⟩
  obtain ⟨n1, q1⟩ := (ent i e h1).2 o1
  obtain ⟨n2, q2⟩ := (ent j e' h2).2 o2
  have := S.dis i j e e' hij q1 q2 o1 o2
  unfold sad at this ⊢
  rw [wipe_get n1, wipe_get n2] at this
  exact this
/-- a list in the making is changed -/
theorem Sim.updR {c : Addr} (S : Sim w xr b g z σ H) (hc : c ∈ b.rs) (hn : b.H c = none) (o : HO) : Sim w xr b g z σ (upd H c o) := by
  obtain ⟨nF, nB, u, hu⟩ := S.rs c hc
  have k : ∀ a v, a ≠ c → H a = some v → upd H c o a = some v := fun a v n e => by rw [upd_ne n]; exact e
  refine ⟨fun a v e => k a v (fun q => by subst q; rw [nF] at e; cases e) (S.sub a v e), S.new, fun a v e n => k a v (fun q => by subst q; rw [hn] at e; cases e) (S.kept a v e n), S.pF, S.pre, S.alnew, S.alF, S.nd, ?_, S.len, S.ln, fun i e he => ?_, S.dis, fun a ha => ?_⟩
  · have : ∀ {xs : List Bx} {ys : List Addr}, (∀ y ∈ ys, y ≠ c) → Paired (BxRel w.cad g.F g.al H) xs ys → Paired (BxRel w.cad g.F g.al (upd H c o)) xs ys := by
      intro xs ys hy p
      induction p with
      | nil => exact .nil
      | cons a t ih => exact .cons (a.mono (.refl _) (.refl _) fun v e => k _ v (hy _ (by simp)) e) (ih fun y h => hy y (List.mem_cons_of_mem _ h))
    exact this (fun y h q => nB (q ▸ h)) S.box
  · have q := S.ent i e he
    cases e with
    | no => trivial
    | ex c x => exact q
    | val d fr =>
      obtain ⟨v, e1, e2⟩ := q
      refine ⟨v, e1, ?_⟩
      unfold ValRel at e2 ⊢
      split
      · rename_i hcc
        rw [if_pos hcc] at e2
        obtain ⟨a, ea, ow⟩ := e2
        exact ⟨a, ea, ⟨ow.nF, ow.nB, ow.nH, ow.nR, ow.cl.mono (.refl _) (.refl _) fun v e => k _ v (fun q => ow.nR (q ▸ hc)) e⟩⟩
      · rename_i hcc
        rw [if_neg hcc] at e2
        exact e2
  · obtain ⟨h1, h2, v, h3⟩ := S.rs a ha
    by_cases e : a = c
    · subst e; exact ⟨h1, h2, o, upd_same⟩
    · exact ⟨h1, h2, v, k a v e h3⟩
/-- a new tuple, as a thing of its own -/
theorem Sim.newTup {ds : List D} {vs : List V} {p : Addr} (S : Sim w xr b g z σ H) (hp : H p = none) (hc : Rps g.F g.al ds vs) :
    ∃ g', Stp g H g' (upd H p (.tup vs)) ∧ Sim w xr b g' z σ (upd H p (.tup vs)) ∧ Rp g'.F g'.al (.tup ds) (.ref p) := by
  have := PostE.tup (W := fun _ _ _ _ => False) (Q := fun v H' => ∃ g', Stp g H g' H' ∧ Sim w xr b g' z σ H' ∧ Rp g'.F g'.al (.tup ds) v) S hp hc fun g' v H' st S' tm => ⟨g', st, S', tm.rp⟩
  exact this
theorem still_get {os os' : Os} : ∀ {ds : List D}, still os' (boxesOf os ds) → ∀ d ∈ ds, ∀ i x, d = .box i → os[i]? = some x → os'[i]? = some x := by
  intro ds h d hd i x e hx
  subst e
  exact h (i, x) (by
    unfold boxesOf
    refine List.mem_filterMap.mpr ⟨_, hd, ?_⟩
    simp [hx])
theorem still_rdL {os os' : Os} {ds : List D} (h : still os' (boxesOf os ds)) {d : D} (hd : d ∈ ds) {es : List D} (e : rdL os d = some es) : rdL os' d = some es := by
  cases d with
  | box i =>
    simp only [rdL] at e ⊢
    split at e
    · rename_i es' hi
      cases e
      rw [still_get h _ hd i _ rfl hi]
    · cases e
  | _ => exact e
theorem still_src {os os' : Os} {k : ItK} {ds xs : List D} (h : still os' (boxesOf os ds)) (e : srcOf os k ds = some xs) : srcOf os' k ds = some xs := by
  have r := fun {d : D} (hd : d ∈ ds) {es : List D} (e : rdL os d = some es) => still_rdL h hd e
  unfold srcOf at e ⊢
  split at e
  · exact e
  · exact e
  · rename_i x h1 h2
    have := r (d := x) (by simp) e
    exact this
  · exact e
  · exact e
  · exact e
  · rename_i x
    obtain ⟨es, h1, h2⟩ := Option.map_eq_some_iff.mp e
    exact Option.map_eq_some_iff.mpr ⟨es, r (by simp) h1, h2⟩
  · rename_i x y
    split at e
    · rename_i es fs h1 h2
      rw [r (d := x) (by simp) h1, r (d := y) (by simp) h2]
      exact e
    · cases e
  · rename_i x
    obtain ⟨es, h1, h2⟩ := Option.map_eq_some_iff.mp e
    exact Option.map_eq_some_iff.mpr ⟨es, r (by simp) h1, h2⟩
  · cases e
end
end Vi

namespace Vi
open PySem L2

abbrev W0 : WX := fun _ _ _ _ => False
/-- where a comprehension's block runs -/
structure BC where
  s : Shared
  H : Hp
  C : Addr
  cl : List (Str × Addr)
  fp : List Addr
abbrev blkOf (X : Cx) (scope : Scope) (c : BC) : Cx := X.blk c.s c.H scope (compEnvC scope c.cl c.C X.env) c.fp
theorem PE.mono {X : Cx} {e : Expr} {t t' : TE} (h : PE X e t) (k : ∀ σ H Q, t' σ H Q → t σ H Q) : PE X e t' := ⟨fun pins s σ H Q I q => h.run pins s σ H Q I (k σ H Q q)⟩
theorem PTs.mono {X : Cx} {e : List Expr} {t t' : TT} (h : PTs X e t) (k : ∀ σ H Q, t' σ H Q → t σ H Q) : PTs X e t' := ⟨fun pins s σ H Q I q => h.run pins s σ H Q I (k σ H Q q)⟩
theorem PG.mono {X : Cx} {e : Expr} {t t' : TG} (h : PG X e t) (k : ∀ v σ H Q, t' v σ H Q → t v σ H Q) : PG X e t' := ⟨fun pins s σ H v u Q I r q => h.run pins s σ H v u Q I r (k v σ H Q q)⟩
/-- the tests of a comprehension -/
def SndTs (w : Wd) (xr : Nat → D → V → Prop) (X : Cx) (W : WX) (es : List Expr) (f : Z → R Z (D × Bool)) : Prop :=
  ∃ t, PTs X es t ∧ ∀ b g z σ H Q, Sim w xr b g z σ H → PostT w xr W b g σ H Q (f z) → t σ H Q

section
variable {w : Wd} {xr : Nat → D → V → Prop} {X : Cx} {W : WX} {b : Bs} {g g1 g2 : Gh} {z z1 z2 : Z} {σ : St} {H H1 H2 : Hp}
theorem ts_nil : SndTs w xr X W [] yesZ := ⟨_, pts_nil, fun b g z σ H Q S k => k g H (.refl _ _) S⟩
theorem ts_one {e : Expr} {f : Z → R Z (D × Bool)} (h : SndT w xr X W e f) : SndTs w xr X W [e] f := by
  obtain ⟨t, p, q⟩ := h
  exact ⟨t, pts_one p, q⟩

/-- what a comprehension asks once its source stands -/
theorem comp_hr {t : Tg} {k : ItK} {fc fe : Z → R Z (D × Bool)} {ds xs : List D} {vs : List V} {Q : VK} {gU : TG} {tU : TT} {eU : TE}
    (hg : ∀ b g z σ H d v env' (Q : St → Hp → Prop), Sim w xr b g z σ H → Rp g.F g.al d v → setT t d z.env = some env' →
      (∀ σ', Sim w xr b g { z with env := env' } σ' H → (∀ vs, (∀ i ∈ t.slots, i ∈ vs) → wipe σ' vs = wipe σ vs) → Q σ' H) → gU v σ H Q)
    (ht : ∀ b g z σ H Q, Sim w xr b g z σ H → PostT w xr W0 b g σ H Q (fc z) → tU σ H Q)
    (he : ∀ b g z σ H Q, Sim w xr b g z σ H → PostF w xr W0 b g σ H Q (fst1 (fe z)) → eU σ H Q)
    (S1 : Sim w xr b g1 z1 σ H1) (rs : Rbs w g1 H1 ds vs) (hsrc : srcOf z1.os k ds = some xs) (kp : PostE w xr W b g1 σ H1 Q (compK t k fc fe ds z1)) (D0 : Addr) (hD : H1 D0 = none) :
    ∃ M : Nat → Nat → Hp → Prop, (∃ m, M 0 m (upd H1 D0 (.lst []))) ∧ ∀ i m H, M i m H →
      ((Jof X.K k ds vs xs.length).stop i H ∧ Q (.ref D0) H) ∨ ((Jof X.K k ds vs xs.length).go i H ∧ ∃ Nx : Hp → Prop, (∀ H', Nx H' → ∃ m', m' < m ∧ M (i + 1) m' H') ∧ ∀ x H', (Jof X.K k ds vs xs.length).yld i H x H' → gU x (wipe σ t.slots) H' fun σ2 H2 => wipe σ2 t.slots = wipe σ t.slots ∧ tU σ2 H2 fun c H3 =>
        if c = true then eU σ2 H3 fun y H4 => ∃ acc, H4 D0 = some (.lst acc) ∧ acc.length < sizeLine ∧ Nx (upd H4 D0 (.lst (acc ++ [y]))) else Nx H3) := by
  unfold compK at kp
  rw [hsrc] at kp
  simp only [compZ] at kp
  cases hfin : compL t (eltIf fc fe) (boxesOf z1.os ds) xs [] ⟨wipeE z1.env t.slots, z1.os⟩ with
  | stuck => rw [hfin] at kp; exact kp.elim
  | exc c x z' => rw [hfin] at kp; exact kp.elim
  | ok ys z2 =>
    rw [hfin] at kp
    simp only at kp
    have nB : b.H D0 = none := S1.freshH hD
    refine ⟨fun i m H => ∃ (g : Gh) (z : Z) (acc : List D) (av : List V), Sim w xr { b with rs := D0 :: b.rs } g z (wipe σ t.slots) H ∧ Stp g1 H1 g H ∧ H D0 = some (.lst av) ∧ Rps g.F g.al acc av ∧ i ≤ xs.length ∧ m = xs.length - i ∧
      compL t (eltIf fc fe) (boxesOf z1.os ds) (xs.drop i) acc z = .ok ys z2, ⟨xs.length, g1, ⟨wipeE z1.env t.slots, z1.os⟩, [], [], ?_, Stp.alloc hD, upd_same, Rps.nil, Nat.zero_le _, rfl, hfin⟩, fun i m H hM => ?_⟩
    · have Sw := (S1.alloc (o := .lst []) hD).wiped t.slots
      refine ⟨Sw.sub, Sw.new, Sw.kept, Sw.pF, Sw.pre, Sw.alnew, Sw.alF, Sw.nd, Sw.box, Sw.len, Sw.ln, fun i e he => ?_, Sw.dis, fun a ha => ?_⟩
      · have q := Sw.ent i e he
        cases e with
        | no => trivial
        | ex c x => exact q
        | val d fr =>
          obtain ⟨v, e1, e2⟩ := q
          refine ⟨v, e1, ?_⟩
          unfold ValRel at e2 ⊢
          split
          · rename_i hc
            rw [if_pos hc] at e2
            obtain ⟨a, ea, ow⟩ := e2
            refine ⟨a, ea, ⟨ow.nF, ow.nB, ow.nH, fun q => ?_, ow.cl⟩⟩
            rcases List.mem_cons.mp q with q | q
            · subst q
              subst ea
              have hl := (List.getElem?_eq_some_iff.mp e1).1
              rw [wipe_length] at hl
              by_cases hi : i ∈ t.slots
              · rw [wipe_at hi hl] at e1; cases e1
              · rw [wipe_get hi] at e1
                have he' : z1.env[i]? = some (.val d fr) := by
                  have : ∀ vs : List Nat, i ∉ vs → (wipeE z1.env vs)[i]? = z1.env[i]? := by
                    intro vs
                    induction vs with
                    | nil => intro _; rfl
                    | cons v vs ih =>
                      intro h
                      simp only [List.mem_cons, not_or] at h
                      unfold wipeE
                      rw [List.getElem?_set_ne (Ne.symm h.1), ih h.2]
                  rw [← this t.slots hi]; exact he
                obtain ⟨a', q1, _, q3⟩ := S1.ownAt he' hc
                rw [e1] at q1; cases q1
                obtain ⟨u, hu⟩ := q3.cl.there
                rw [hD] at hu; cases hu
            · exact ow.nR q
          · rename_i hc
            rw [if_neg hc] at e2
            exact e2
      · rcases List.mem_cons.mp ha with h | h
        · subst h; exact ⟨S1.freshF hD, S1.freshB hD, _, upd_same⟩
        · exact Sw.rs a h
    · obtain ⟨g, z, acc, av, S, st, hav, hr, hi, rfl, hrun⟩ := hM
      have rs' : Rbs w g H ds vs := rs.mono st
      have fd : ∀ (h : still z.os (boxesOf z1.os ds)), Fed (Jof X.K k ds vs xs.length) g H xs := fun h => feed S rs' (still_src h hsrc)
      by_cases hlt : i < xs.length
      · right
        rw [List.drop_eq_getElem_cons hlt] at hrun
        simp only [compL] at hrun
        split at hrun
        · rename_i hst
          have F := fd hst
          refine ⟨F.go i hlt, fun H' => ∃ (g : Gh) (z : Z) (acc : List D) (av : List V), Sim w xr { b with rs := D0 :: b.rs } g z (wipe σ t.slots) H' ∧ Stp g1 H1 g H' ∧ H' D0 = some (.lst av) ∧ Rps g.F g.al acc av ∧ compL t (eltIf fc fe) (boxesOf z1.os ds) (xs.drop (i + 1)) acc z = .ok ys z2,
            fun H' ⟨g, z, acc, av, a1, a2, a3, a4, a5⟩ => ⟨xs.length - (i + 1), by omega, g, z, acc, av, a1, a2, a3, a4, by omega, rfl, a5⟩, fun x H' hy => ?_⟩
          obtain ⟨g', st', S', hx⟩ : ∃ g', Stp g H g' H' ∧ Sim w xr { b with rs := D0 :: b.rs } g' z (wipe σ t.slots) H' ∧ Rp g'.F g'.al xs[i] x := by
            rcases F.yld i xs[i] x H' (by simp) hy with ⟨rfl, h⟩ | ⟨p, es, us, h1, rfl, h2, rfl, h3⟩
            · exact ⟨g, .refl _ _, S, h⟩
            · obtain ⟨g', a1, a2, a3⟩ := S.newTup h2 h3
              exact ⟨g', a1, a2, by rw [h1]; exact a3⟩
          split at hrun
          · rename_i env' henv
            refine hg _ g' z (wipe σ t.slots) H' xs[i] x env' _ S' hx henv fun σ2 S2 hw => ?_
            have hw2 : wipe σ2 t.slots = wipe σ t.slots := by rw [hw t.slots fun i h => h, wipe_idem]
            refine ⟨hw2, ht _ g' ⟨env', z.os⟩ σ2 H' _ S2 ?_⟩
            cases hc : fc ⟨env', z.os⟩ with
            | stuck => simp only [eltIf, hc, R.bind_stuck] at hrun; cases hrun
            | exc c x z' => simp only [eltIf, hc, R.bind_exc] at hrun; cases hrun
            | ok cb z3 =>
              obtain ⟨cd, cfr⟩ := cb
              cases cd with
              | bl c =>
                intro g3 H3 st3 S3
                cases c with
                | false =>
                  rw [if_neg Bool.false_ne_true]
                  simp only [eltIf, hc, R.bind_ok] at hrun
                  have Sw := S3.wiped t.slots
                  rw [hw2] at Sw
                  have st4 := (st.trans st').trans st3
                  have nb := S.rs D0 (by simp)
                  have hD3 : H3 D0 = some (.lst av) := (st'.trans st3).keep D0 _ hav nb.2.1
                  exact ⟨g3, _, acc, av, Sw, st4, hD3, Rps.mono (st'.trans st3).F (st'.trans st3).al _ _ hr, hrun⟩
                | true =>
                  rw [if_pos rfl]
                  simp only [eltIf, hc, R.bind_ok] at hrun
                  refine he _ g3 z3 σ2 H3 _ S3 ?_
                  cases hel : fe z3 with
                  | stuck => simp only [hel, R.bind_stuck] at hrun; cases hrun
                  | exc c x z' => simp only [hel, R.bind_exc] at hrun; cases hrun
                  | ok ya z4 =>
                    simp only [hel, R.bind_ok] at hrun
                    intro g4 y H4 st4 S4 ry
                    split at hrun
                    · rename_i hsz
                      have st5 := (st'.trans st3).trans st4
                      have nb := S.rs D0 (by simp)
                      have hD4 : H4 D0 = some (.lst av) := st5.keep D0 _ hav nb.2.1
                      refine ⟨av, hD4, by rw [Rps.length hr]; exact hsz, ?_⟩
                      have Su := (S4.wiped t.slots).updR (c := D0) (by simp) nB (.lst (av ++ [y]))
                      rw [hw2] at Su
                      have st6 := st.trans st5
                      refine ⟨g4, _, acc ++ [ya.1], av ++ [y], Su, ⟨st6.F, st6.al, st6.alnew, fun a o e n => ?_⟩, upd_same, Rps.append (Rps.mono st5.F st5.al _ _ hr) (Rps.cons ry Rps.nil), hrun⟩
                      rw [upd_ne (ne_of_none e hD)]
                      exact st6.keep a o e n
                    · cases hrun
              | _ => simp only [eltIf, hc, R.bind_ok] at hrun; cases hrun
          · cases hrun
        · cases hrun
      · left
        have ei : i = xs.length := by omega
        subst ei
        rw [List.drop_length] at hrun
        simp only [compL] at hrun
        split at hrun
        · rename_i hst
          cases hrun
          refine ⟨(fd hst).stop, ?_⟩
          have Sb := S1.back S st
          obtain ⟨nF, nBx, _⟩ := S.rs D0 (by simp)
          refine kp g (.ref D0) H st Sb ?_
          unfold Tmp
          rw [if_pos (by simp [D.cell])]
          refine ⟨D0, rfl, ⟨nF, nBx, nB, S1.freshR hD, ⟨av, hav, hr⟩⟩, fun j e hj ho q => ?_, hD⟩
          cases e with
          | no => cases ho
          | ex c x => cases ho
          | val d fr =>
            obtain ⟨a, q1, q2, q3⟩ := Sb.ownAt hj ho
            rw [q2] at q
            cases q
            have hj2 : j ∉ t.slots := fun hm => by
              rcases back_at hm hj with h | ⟨_, h⟩
              · cases h
              · rw [h] at ho; cases ho
            rw [back_get hj2] at hj
            obtain ⟨a', r1, r2, r3⟩ := S.ownAt hj ho
            have : sad (wipe σ t.slots) j = sad σ j := by unfold sad; rw [wipe_get hj2]
            rw [this, q2] at r2
            cases r2
            exact r3.nR (by simp)
        · cases hrun
/-- a comprehension, by its parts -/
structure LcOk (w : Wd) (xr : Nat → D → V → Prop) (X : Cx) (W : WX) (tg iter elt : Expr) (ifs : List Expr) (scope : Scope) (vs : List Nat) (f : Z → R Z (D × Bool)) (wi : TI) (gU : TG) (tU : TT) (eU : TE) : Prop where
  pi : PI X tg iter wi
  pg : ∀ (s : Shared) (H : Hp) (C : Addr) (cl : List (Str × Addr)) (fp : List Addr), PG (X.blk s H scope (compEnvC scope cl C X.env) fp) tg gU
  pt : ∀ (s : Shared) (H : Hp) (C : Addr) (cl : List (Str × Addr)) (fp : List Addr), PTs (X.blk s H scope (compEnvC scope cl C X.env) fp) ifs tU
  pe : ∀ (s : Shared) (H : Hp) (C : Addr) (cl : List (Str × Addr)) (fp : List Addr), PE (X.blk s H scope (compEnvC scope cl C X.env) fp) elt eU
  run : ∀ b g z σ H Q, Sim w xr b g z σ H → PostE w xr W b g σ H Q (f z) → tLc wi gU tU eU vs σ H Q
theorem lc_ok {cf : CF} {elt tg iter : Expr} {ifs : List Expr} {scope : Scope} {t : Tg} {k : ItK} {is : List E} {fc fe : Z → R Z (D × Bool)}
    (hi : SndI w xr X W tg iter k (evalEs cf is)) (hg : ∀ c, SndG w xr (blkOf X scope c) tg t) (ht : ∀ c, SndTs w xr (blkOf X scope c) W0 ifs fc) (he : ∀ c, SndF w xr (blkOf X scope c) W0 elt fun z => fst1 (fe z)) :
    ∃ wi gU tU eU, LcOk w xr X W tg iter elt ifs scope t.slots (fun z => (evalEs cf is z).bind fun ds z => compK t k fc fe ds z) wi gU tU eU := by
  obtain ⟨wi, pi, qi⟩ := hi
  refine ⟨wi, fun v σ H Q => ∀ c, Classical.choose (hg c) v σ H Q, fun σ H Q => ∀ c, Classical.choose (ht c) σ H Q, fun σ H Q => ∀ c, Classical.choose (he c) σ H Q, pi, fun s H C cl fp => ?_, fun s H C cl fp => ?_, fun s H C cl fp => ?_, fun b g z σ H Q S kp => ?_⟩
  · exact PG.mono (Classical.choose_spec (hg ⟨s, H, C, cl, fp⟩)).1 fun v σ H Q q => q _
  · exact PTs.mono (Classical.choose_spec (ht ⟨s, H, C, cl, fp⟩)).1 fun σ H Q q => q _
  · exact PE.mono (Classical.choose_spec (he ⟨s, H, C, cl, fp⟩)).1 fun σ H Q q => q _
  · refine qi b g z σ H _ S ?_
    cases e : evalEs cf is z with
    | stuck => rw [e] at kp; exact kp
    | exc c x z' => rw [e] at kp; exact kp
    | ok ds z1 =>
      rw [e] at kp
      simp only [R.bind_ok] at kp
      simp only [PostI]
      cases hs : srcOf z1.os k ds with
      | none => simp only [compK, hs] at kp; exact kp
      | some xs =>
        intro g1 H1 vs st1 S1 rs
        intro D0 hD
        exact comp_hr (gU := fun v σ H Q => ∀ c, Classical.choose (hg c) v σ H Q) (tU := fun σ H Q => ∀ c, Classical.choose (ht c) σ H Q) (eU := fun σ H Q => ∀ c, Classical.choose (he c) σ H Q)
          (fun b g z σ H d v env' Q S r e k c => (Classical.choose_spec (hg c)).2 b g z σ H d v env' Q S r e k) (fun b g z σ H Q S k c => (Classical.choose_spec (ht c)).2 b g z σ H Q S k) (fun b g z σ H Q S k c => (Classical.choose_spec (he c)).2 b g z σ H Q S k)
          S1 rs hs (PostE.step S1 st1 kp) D0 hD
theorem s_lc {elt tg iter : Expr} {ifs : List Expr} {scope : Scope} {own : List (Str × Nat)} {vs : List Nat} {pos : Pos} {f : Z → R Z (D × Bool)} (hc : X.calm = true) (hN : X.N.Nodup) (ok : BlkOk X.N X.env.scope scope own) (ho : own.map (·.2) = vs) (hs : ∀ x, foldedSetIterable iter X.env x = pure x)
    (h : ∃ wi gU tU eU, LcOk w xr X W tg iter elt ifs scope vs f wi gU tU eU) : SndE w xr X W (.ListComp elt [⟨tg, iter, ifs, 0⟩] scope pos) f := by
  obtain ⟨wi, gU, tU, eU, L⟩ := h
  subst ho
  exact ⟨_, pe_lc hc hN L.pi ok L.pg L.pt L.pe hs, L.run⟩
end
end Vi

namespace Vi
open PySem L2

structure Le (g g' : Gh) : Prop where
  F : Sub g.F g'.F
  al : Pre g.al g'.al
theorem Le.refl (g : Gh) : Le g g := ⟨.refl _, .refl _⟩
theorem Le.trans {a b c : Gh} (h : Le a b) (h' : Le b c) : Le a c := ⟨h.F.trans h'.F, h.al.trans h'.al⟩
theorem Stp.le {g g' : Gh} {H H' : Hp} (s : Stp g H g' H') : Le g g' := ⟨s.F, s.al⟩

def PostS (w : Wd) (xr : Nat → D → V → Prop) (W : WX) (b : Bs) (g : Gh) (D : Ends) : R Z Fl → Prop
  | .ok f z' => match f with
    | .next => ∀ g' σ' H', Le g g' → Sim w xr b g' z' σ' H' → D.nx σ' H'
    | .cont => ∀ g' σ' H', Le g g' → Sim w xr b g' z' σ' H' → D.ct σ' H'
    | .ret d fr => ∀ g' σ' H' v, Le g g' → Sim w xr b g' z' σ' H' → ValRel w b g' H' d fr v → D.rt v H'
  | .exc c x z' => ∀ g' σ' H' cls dd, Le g g' → Sim w xr b g' z' σ' H' → XR w.cad g' c x cls dd H' → W cls dd σ' H'
  | .stuck => False
def SndS (w : Wd) (xr : Nat → D → V → Prop) (X : Cx) (W : WX) (st : Stmt) (f : Z → R Z Fl) : Prop :=
  ∃ t, PS X st t ∧ ∀ b g z σ H D, Sim w xr b g z σ H → PostS w xr W b g D (f z) → t D σ H
def SndSs (w : Wd) (xr : Nat → D → V → Prop) (X : Cx) (W : WX) (st : List Stmt) (f : Z → R Z Fl) : Prop :=
  ∃ t, PSs X st t ∧ ∀ b g z σ H D, Sim w xr b g z σ H → PostS w xr W b g D (f z) → t D σ H

section
variable {w : Wd} {xr : Nat → D → V → Prop} {X : Cx} {W : WX} {b : Bs} {g g1 g2 : Gh} {z z1 z2 : Z} {σ : St} {H H1 H2 : Hp}

theorem PostS.step {D : Ends} {r : R Z Fl} (l : Le g g2) (k : PostS w xr W b g D r) : PostS w xr W b g2 D r := by
  cases r with
  | ok f z' =>
    cases f with
    | next => exact fun g' σ' H' s' => k g' σ' H' (l.trans s')
    | cont => exact fun g' σ' H' s' => k g' σ' H' (l.trans s')
    | ret d fr => exact fun g' σ' H' v s' => k g' σ' H' v (l.trans s')
  | exc c x z' => exact fun g' σ' H' cls dd s' => k g' σ' H' cls dd (l.trans s')
  | stuck => exact k.elim
theorem Tmp.val {H0 : Hp} {d : D} {fr : Bool} {v : V} (h : Tmp w b g z σ H0 H d fr v) : ValRel w b g H d fr v := by
  unfold Tmp at h
  unfold ValRel
  split
  · rename_i hc; rw [if_pos hc] at h
    obtain ⟨a, e, o, _⟩ := h
    exact ⟨a, e, o⟩
  · rename_i hc; rw [if_neg hc] at h; exact h
theorem ss_nil {cf : CF} : SndSs w xr X W [] (execB cf []) := ⟨_, pss_nil, fun b g z σ H D S k => by
  simp only [execB] at k
  exact k g σ H (.refl _) S⟩
theorem ss_cons {cf : CF} {st : Stmt} {sts : List Stmt} {i : S} {is : List S} (h : SndS w xr X W st (execS cf i)) (hr : SndSs w xr X W sts (execB cf is)) : SndSs w xr X W (st :: sts) (execB cf (i :: is)) := by
  obtain ⟨t, p, q⟩ := h
  obtain ⟨u, p2, q2⟩ := hr
  refine ⟨_, pss_cons p p2, fun b g z σ H D S k => q b g z σ H _ S ?_⟩
  simp only [execB] at k
  cases r : execS cf i z with
  | stuck => rw [r] at k; exact k
  | exc c x z' => rw [r] at k; exact k
  | ok f z1 =>
    rw [r] at k
    cases f with
    | next => exact fun g1 σ1 H1 l S1 => q2 b g1 z1 σ1 H1 D S1 (PostS.step l k)
    | cont => exact k
    | ret d fr => exact k
/-- an expression's outcome within a statement's -/
theorem exc_of {D : Ends} {c : Nat} {x : Vi.D} {z' : Z} (k : PostS w xr W b g D (.exc c x z')) : ∀ g' cls dd H', Stp g H g' H' → Sim w xr b g' z' σ H' → XR w.cad g' c x cls dd H' → W cls dd σ H' :=
  fun g' cls dd H' st S x => k g' σ H' cls dd st.le S x
theorem s_set {cf : CF} {i : Nat} {x : Str} {e : Expr} {ie : E} {pos' pos : Pos} (hm : X.N.length = w.m) (hN : X.N.Nodup) (hi : X.N[i]? = some x) (hx : Loc X.env.scope x) (hf : X.fn x = true ∨ X.env.scope.names.lookup x = some .local)
    (hs : swapsWith e (some (.Name x pos')) pos.line X.env = pure false) (h : SndE w xr X W e (evalE cf ie)) : SndS w xr X W (.Assign [.Name x pos'] e pos) (execS cf (.set (.nm i) ie)) := by
  obtain ⟨t, p, q⟩ := h
  refine ⟨_, ps_set hN hi hx p hs hf, fun b g z σ H D S k => q b g z σ H _ S ?_⟩
  simp only [execS] at k
  cases r : evalE cf ie z with
  | stuck => rw [r] at k; exact k
  | exc c x z' => rw [r] at k; exact exc_of k
  | ok a z1 =>
    rw [r] at k
    intro g1 v H1 st1 S1 tm
    have hlt : i < z1.env.length := by
      rw [S1.len, S1.ln, ← hm]; exact (List.getElem?_eq_some_iff.mp hi).1
    exact k g1 _ H1 st1.le (S1.assignT hlt tm)
theorem s_setLc {cf : CF} {i : Nat} {x : Str} {elt tg iter : Expr} {ifs : List Expr} {scope : Scope} {own : List (Str × Nat)} {vs : List Nat} {ie : E} {pos' pos spos : Pos} (hm : X.N.length = w.m) (hc : X.calm = true) (hN : X.N.Nodup) (hi : X.N[i]? = some x) (hxl : X.env.scope.names.lookup x = some .local)
    (hsw : swapsWith (.ListComp elt [⟨tg, iter, ifs, 0⟩] scope pos) (some (.Name x pos')) spos.line X.env = pure true) (ok : BlkOk X.N X.env.scope scope own) (ho : own.map (·.2) = vs) (hs : ∀ x, foldedSetIterable iter X.env x = pure x)
    (h : ∃ wi gU tU eU, LcOk w xr X W tg iter elt ifs scope vs (evalE cf ie) wi gU tU eU) : SndS w xr X W (.Assign [.Name x pos'] (.ListComp elt [⟨tg, iter, ifs, 0⟩] scope pos) spos) (execS cf (.set (.nm i) ie)) := by
  obtain ⟨wi, gU, tU, eU, L⟩ := h
  subst ho
  refine ⟨_, ps_setLc hc hN hi hxl hsw L.pi ok L.pg L.pt L.pe hs, fun b g z σ H D S k => L.run b g z σ H _ S ?_⟩
  simp only [execS] at k
  cases r : evalE cf ie z with
  | stuck => rw [r] at k; exact k
  | exc c x z' => rw [r] at k; exact exc_of k
  | ok a z1 =>
    rw [r] at k
    intro g1 v H1 st1 S1 tm
    have hlt : i < z1.env.length := by
      rw [S1.len, S1.ln, ← hm]; exact (List.getElem?_eq_some_iff.mp hi).1
    exact k g1 _ H1 st1.le (S1.assignT hlt tm)
theorem s_setT {cf : CF} {ts : List Tg} {tes : List Expr} {k0 : Nat} {tpos : Pos} {e : Expr} {ie : E} {pos : Pos} (hg : SndG w xr X (.Tuple tes k0 tpos) (.tp ts)) (hs : swapsWithSole [.Tuple tes k0 tpos] e pos.line X.env = pure false) (hw : swappedStores [.Tuple tes k0 tpos] e X.env = pure none) (h : SndE w xr X W e (evalE cf ie)) :
    SndS w xr X W (.Assign [.Tuple tes k0 tpos] e pos) (execS cf (.set (.tp ts) ie)) := by
  obtain ⟨t, p, q⟩ := h
  obtain ⟨gt, pg, qg⟩ := hg
  refine ⟨_, ps_asg p pg hs hw, fun b g z σ H D S k => q b g z σ H _ S ?_⟩
  simp only [execS] at k
  cases r : evalE cf ie z with
  | stuck => rw [r] at k; exact k
  | exc c x z' => rw [r] at k; exact exc_of k
  | ok a z1 =>
    rw [r] at k
    simp only [R.bind_ok] at k
    intro g1 v H1 st1 S1 tm
    split at k
    · rename_i env' he
      obtain ⟨d, fr⟩ := a
      cases d with
      | tup ds =>
        have rp : Rp g1.F g1.al (.tup ds) v := by
          unfold Tmp at tm; rw [if_neg (by simp [Vi.D.cell])] at tm; exact tm
        exact qg b g1 z1 σ H1 _ v env' _ S1 rp he fun σ' S' _ => k g1 σ' H1 st1.le S'
      | _ => simp [setT] at he
    · exact k.elim
theorem s_expr {cf : CF} {e : Expr} {ie : E} {pos : Pos} (hs : swapsWith e none pos.line X.env = pure false) (h : SndE w xr X W e (evalE cf ie)) : SndS w xr X W (.Expr e pos) (execS cf (.expr ie)) := by
  obtain ⟨t, p, q⟩ := h
  refine ⟨_, ps_expr p hs, fun b g z σ H D S k => q b g z σ H _ S ?_⟩
  simp only [execS] at k
  cases r : evalE cf ie z with
  | stuck => rw [r] at k; exact k
  | exc c x z' => rw [r] at k; exact exc_of k
  | ok a z1 =>
    rw [r] at k
    exact fun g1 v H1 st1 S1 tm => k g1 σ H1 st1.le S1
theorem s_if {cf : CF} {c : Expr} {a e : List Stmt} {ic : E} {ia ib : List S} {pos : Pos} (hc : SndT w xr X W c (evalE cf ic)) (ha : SndSs w xr X W a (execB cf ia)) (hb : SndSs w xr X W e (execB cf ib)) : SndS w xr X W (.If c a e pos) (execS cf (.ifS ic ia ib)) := by
  obtain ⟨tc, pc, qc⟩ := hc
  obtain ⟨ta, pa, qa⟩ := ha
  obtain ⟨tb, pb, qb⟩ := hb
  refine ⟨_, ps_if pc pa pb, fun b g z σ H D S k => qc b g z σ H _ S ?_⟩
  simp only [execS] at k
  cases r : evalE cf ic z with
  | stuck => rw [r] at k; exact k
  | exc c x z' => rw [r] at k; exact exc_of k
  | ok x z1 =>
    rw [r] at k
    obtain ⟨d, fr⟩ := x
    cases d with
    | bl c =>
      intro g1 H1 st1 S1
      have k1 := PostS.step st1.le k
      cases c with
      | true => rw [if_pos rfl]; exact qa b g1 z1 σ H1 D S1 k1
      | false => rw [if_neg Bool.false_ne_true]; exact qb b g1 z1 σ H1 D S1 k1
    | _ => exact k.elim
theorem s_pass {cf : CF} {pos : Pos} : SndS w xr X W (.Pass pos) (execS cf .pass) := ⟨_, ps_pass, fun b g z σ H D S k => k g σ H (.refl _) S⟩
theorem s_cont {cf : CF} {pos : Pos} : SndS w xr X W (.Continue pos) (execS cf .cont) := ⟨_, ps_continue, fun b g z σ H D S k => k g σ H (.refl _) S⟩
theorem s_doc {cf : CF} {x : Str} {j pos pos'} : SndS w xr X W (.Expr (.Constant (.str x) j pos) pos') (execS cf .pass) := ⟨_, ps_doc, fun b g z σ H D S k => k g σ H (.refl _) S⟩
theorem s_retN {cf : CF} {pos : Pos} : SndS w xr X W (.Return none pos) (execS cf .retN) := ⟨_, ps_retN, fun b g z σ H D S k => k g σ H .non (.refl _) S (by unfold ValRel; rw [if_neg (by simp)]; simp [Rp])⟩
theorem s_retV {cf : CF} {i : Nat} {x : Str} {pos' pos : Pos} (hN : X.N[i]? = some x) (hv : Vis X.env.scope x) (hd : (x == ("__debug__" : Str)) = false) (hcd : (x == ("__classdict__" : Str)) = false) : SndS w xr X W (.Return (some (.Name x pos')) pos) (execS cf (.ret (.v i))) := by
  refine ⟨_, ps_ret (pe_var hN hv hd hcd), fun b g z σ H D S k => ?_⟩
  simp only [execS] at k
  split at k
  · rename_i d fr he
    obtain ⟨v, h1, h2⟩ := S.ent i _ he
    exact ⟨v, h1, k g σ H v (.refl _) S h2⟩
  · exact k.elim
theorem s_ret {cf : CF} {e : Expr} {ie : E} {pos : Pos} (hn : ∀ i, ie ≠ .v i) (h : SndE w xr X W e (evalE cf ie)) : SndS w xr X W (.Return (some e) pos) (execS cf (.ret ie)) := by
  obtain ⟨t, p, q⟩ := h
  refine ⟨_, ps_ret p, fun b g z σ H D S k => q b g z σ H _ S ?_⟩
  have ex : execS cf (.ret ie) z = (evalE cf ie z).bind fun a z => .ok (.ret a.1 a.2) z := by
    cases ie <;> first | (simp only [execS]; done) | exact absurd rfl (hn _)
  rw [ex] at k
  cases r : evalE cf ie z with
  | stuck => rw [r] at k; exact k
  | exc c x z' => rw [r] at k; exact exc_of k
  | ok a z1 =>
    rw [r] at k
    exact fun g1 v H1 st1 S1 tm => k g1 σ H1 v st1.le S1 tm.val
theorem s_whl {cf : CF} {c : Expr} {a : List Stmt} {ic : E} {ia : List S} {pos : Pos} (hp : PassesOwn (model X.prog X.w) X.A X.env X.xe) (hc : SndT w xr X W c (evalE cf ic)) (ha : SndSs w xr X W a (execB cf ia)) : SndS w xr X W (.While c a [] pos) (execS cf (.whl ic ia)) := by
  obtain ⟨tc, pc, qc⟩ := hc
  obtain ⟨ta, pa, qa⟩ := ha
  refine ⟨_, ps_while hp pc pa, fun b g z σ H D S k => ?_⟩
  simp only [execS] at k
  refine ⟨fun m σ H => ∃ g z, Sim w xr b g z σ H ∧ PostS w xr W b g D (whlL (evalE cf ic) (execB cf ia) m z), ⟨cf.fuel, g, z, S, k⟩, fun m σ H hM => ?_⟩
  obtain ⟨g, z, S, k⟩ := hM
  cases m with
  | zero => exact k.elim
  | succ n =>
    simp only [whlL] at k
    refine qc b g z σ H _ S ?_
    cases r : evalE cf ic z with
    | stuck => rw [r] at k; exact k
    | exc c x z' => rw [r] at k; exact exc_of k
    | ok x z1 =>
      rw [r] at k
      obtain ⟨d, fr⟩ := x
      cases d with
      | bl c =>
        intro g1 H1 st1 S1
        have k1 := PostS.step st1.le k
        cases c with
        | false => rw [if_neg Bool.false_ne_true]; exact k1 g1 σ H1 (.refl _) S1
        | true =>
          rw [if_pos rfl]
          simp only [R.bind_ok] at k1
          refine ⟨fun σ H => ∃ g z, Sim w xr b g z σ H ∧ PostS w xr W b g D (whlL (evalE cf ic) (execB cf ia) n z), fun σ' H' h => ⟨n, Nat.lt_succ_self n, h⟩, qa b g1 z1 σ H1 _ S1 ?_⟩
          cases r2 : execB cf ia z1 with
          | stuck => rw [r2] at k1; exact k1
          | exc c x z' => rw [r2] at k1; exact k1
          | ok f z2 =>
            rw [r2] at k1
            cases f with
            | next => exact fun g2 σ2 H2 l S2 => ⟨g2, z2, S2, PostS.step l k1⟩
            | cont => exact fun g2 σ2 H2 l S2 => ⟨g2, z2, S2, PostS.step l k1⟩
            | ret d fr => exact k1
      | _ => exact k.elim
theorem s_for {cf : CF} {tg iter : Expr} {a : List Stmt} {t : Tg} {k : ItK} {is : List E} {ia : List S} {pos : Pos} (hp : PassesOwn (model X.prog X.w) X.A X.env X.xe) (hc : X.calm = true) (hs : ∀ x, foldedSetIterable iter X.env x = pure x)
    (hi : SndIF w xr X W tg iter k (evalEs cf is)) (hg : SndG w xr X tg t) (ha : SndSs w xr X W a (execB cf ia)) : SndS w xr X W (.For tg iter a [] pos) (execS cf (.for t k is ia)) := by
  obtain ⟨wi, pi, qi⟩ := hi
  obtain ⟨gt, pg, qg⟩ := hg
  obtain ⟨ta, pa, qa⟩ := ha
  refine ⟨_, ps_for hp hc pi pg pa hs, fun b g z σ H D S kk => qi b g z σ H _ S ?_⟩
  simp only [execS] at kk
  cases e : evalEs cf is z with
  | stuck => rw [e] at kk; exact kk
  | exc c x z' => rw [e] at kk; exact exc_of kk
  | ok ds z1 =>
    rw [e] at kk
    simp only [R.bind_ok, forK] at kk
    simp only [PostIF]
    cases hsrc : srcOf z1.os k ds with
    | none => rw [hsrc] at kk; exact kk
    | some xs =>
      rw [hsrc] at kk
      simp only at kk
      intro g1 H1 vs st1 S1 rs
      have k1 := PostS.step st1.le kk
      refine ⟨fun i m σ H => ∃ g z, Sim w xr b g z σ H ∧ Le g1 g ∧ i ≤ xs.length ∧ m = xs.length - i ∧ PostS w xr W b g D (forL t (execB cf ia) (boxesOf z1.os ds) (xs.drop i) z), ⟨xs.length, g1, z1, S1, .refl _, Nat.zero_le _, rfl, k1⟩, fun i m σ H hM => ?_⟩
      obtain ⟨g, z, S, l, hi, rfl, kp⟩ := hM
      have rs' : Rbs w g H ds vs := Rbs.ofF S (Rps.mono l.F l.al _ _ rs)
      by_cases hlt : i < xs.length
      · right
        rw [List.drop_eq_getElem_cons hlt] at kp
        simp only [forL] at kp
        split at kp
        · rename_i hst
          have F := feed (X := X) S rs' (still_src hst hsrc)
          refine ⟨F.go i hlt, fun σ H => ∃ g z, Sim w xr b g z σ H ∧ Le g1 g ∧ PostS w xr W b g D (forL t (execB cf ia) (boxesOf z1.os ds) (xs.drop (i + 1)) z), fun σ' H' ⟨g, z, a1, a2, a3⟩ => ⟨xs.length - (i + 1), by omega, g, z, a1, a2, by omega, rfl, a3⟩, fun x H' hy => ?_⟩
          obtain ⟨g', st', S', hx⟩ : ∃ g', Stp g H g' H' ∧ Sim w xr b g' z σ H' ∧ Rp g'.F g'.al xs[i] x := by
            rcases F.yld i xs[i] x H' (by simp) hy with ⟨rfl, h⟩ | ⟨p, es, us, h1, rfl, h2, rfl, h3⟩
            · exact ⟨g, .refl _ _, S, h⟩
            · obtain ⟨g', a1, a2, a3⟩ := S.newTup h2 h3
              exact ⟨g', a1, a2, by rw [h1]; exact a3⟩
          have kp1 := PostS.step st'.le kp
          split at kp1
          · rename_i env' henv
            refine qg b g' z σ H' xs[i] x env' _ S' hx henv fun σ2 S2 _ => ?_
            refine qa b g' ⟨env', z.os⟩ σ2 H' _ S2 ?_
            cases r2 : execB cf ia ⟨env', z.os⟩ with
            | stuck => rw [r2] at kp1; exact kp1
            | exc c x z' => rw [r2] at kp1; exact kp1
            | ok f z2 =>
              rw [r2] at kp1
              have ll := l.trans st'.le
              cases f with
              | next => exact fun g2 σ2 H2 l2 S2 => ⟨g2, z2, S2, ll.trans l2, PostS.step l2 kp1⟩
              | cont => exact fun g2 σ2 H2 l2 S2 => ⟨g2, z2, S2, ll.trans l2, PostS.step l2 kp1⟩
              | ret d fr => exact kp1
          · exact kp1.elim
        · exact kp.elim
      · left
        have ei : i = xs.length := by omega
        subst ei
        rw [List.drop_length] at kp
        simp only [forL] at kp
        split at kp
        · rename_i hst
          exact ⟨(feed (X := X) S rs' (still_src hst hsrc)).stop, kp g σ H (.refl _) S⟩
        · exact kp.elim
end
end Vi

namespace Vi
open PySem L2

section
variable {w : Wd} {xr : Nat → D → V → Prop} {X : Cx} {W : WX} {b : Bs} {g g1 g2 : Gh} {z z1 z2 : Z} {σ : St} {H H1 H2 : Hp}

/-- an own list or dict is changed -/
theorem Sim.updOwn (S : Sim w xr b g z σ H) {i : Nat} {d d' : D} {a : Addr} {o : HO} (he : z.env[i]? = some (.val d true)) (hd : d.cell = true) (hd' : d'.cell = true) (hs : σ[i]? = some (some (.ref a))) (hc : Cel g.F g.al (upd H a o) a d') :
    Sim w xr b g { z with env := z.env.set i (.val d' true) } σ (upd H a o) := by
  obtain ⟨a', h1, h2, ow⟩ := S.ownAt he (by simp [hd])
  rw [hs] at h1; cases h1
  have hi : i < z.env.length := (List.getElem?_eq_some_iff.mp he).1
  have k : ∀ c v, c ≠ a → H c = some v → upd H a o c = some v := fun c v n e => by rw [upd_ne n]; exact e
  refine ⟨fun c v e => k c v (fun q => by subst q; rw [ow.nF] at e; cases e) (S.sub c v e), S.new, fun c v e n => k c v (fun q => by subst q; rw [ow.nH] at e; cases e) (S.kept c v e n), S.pF, S.pre, S.alnew, S.alF, S.nd, ?_, by simp [S.len], S.ln, fun j e hj => ?_, fun j l e e' hjl h3 h4 o1 o2 => ?_, fun c hc' => ?_⟩
  · have : ∀ {xs : List Bx} {ys : List Addr}, (∀ y ∈ ys, y ≠ a) → Paired (BxRel w.cad g.F g.al H) xs ys → Paired (BxRel w.cad g.F g.al (upd H a o)) xs ys := by
      intro xs ys hy p
      induction p with
      | nil => exact .nil
      | cons q t ih => exact .cons (q.mono (.refl _) (.refl _) fun v e => k _ v (hy _ (by simp)) e) (ih fun y h => hy y (List.mem_cons_of_mem _ h))
    exact this (fun y h q => ow.nB (q ▸ h)) S.box
  · by_cases hij : i = j
    · subst hij
      rw [List.getElem?_set_self hi] at hj
      cases hj
      refine ⟨.ref a, hs, ?_⟩
      unfold ValRel
      rw [if_pos (by simp [hd'])]
      exact ⟨a, rfl, ow.nF, ow.nB, ow.nH, ow.nR, hc⟩
    · rw [List.getElem?_set_ne hij] at hj
      have q := S.ent j e hj
      cases e with
      | no => trivial
      | ex c x => exact q
      | val d2 fr =>
        obtain ⟨v, e1, e2⟩ := q
        refine ⟨v, e1, ?_⟩
        unfold ValRel at e2 ⊢
        split
        · rename_i hcc
          rw [if_pos hcc] at e2
          obtain ⟨c, ea, ow2⟩ := e2
          refine ⟨c, ea, ow2.nF, ow2.nB, ow2.nH, ow2.nR, ow2.cl.mono (.refl _) (.refl _) fun v e => k _ v (fun q => ?_) e⟩
          subst q
          have : sad σ j = some c := by unfold sad; rw [e1, ea]
          exact S.dis i j _ _ hij he hj (by simp [Ent.owns, hd]) hcc (h2.trans this.symm)
        · rename_i hcc
          rw [if_neg hcc] at e2
          exact e2
  · have f : ∀ {j : Nat} {e : Ent}, (z.env.set i (.val d' true))[j]? = some e → e.owns = true → ∃ e0, z.env[j]? = some e0 ∧ e0.owns = true := fun {j e} h o => by
      by_cases hij : i = j
      · subst hij; exact ⟨_, he, by simp [Ent.owns, hd]⟩
      · exact ⟨e, by rwa [List.getElem?_set_ne hij] at h, o⟩
    obtain ⟨e0, a1, a2⟩ := f h3 o1
    obtain ⟨e1, a3, a4⟩ := f h4 o2
    exact S.dis j l e0 e1 hjl a1 a3 a2 a4
  · obtain ⟨h3, h4, v, h5⟩ := S.rs c hc'
    exact ⟨h3, h4, v, k c v (fun q => ow.nR (q ▸ hc')) h5⟩
/-- what stands in a box is changed -/
theorem Sim.updBox (S : Sim w xr b g z σ H) {i : Nat} {x : Bx} {a : Addr} {o : HO} (ha : g.al[i]? = some a) (hc : BxRel w.cad g.F g.al (upd H a o) x a) :
    Sim w xr b g { z with os := z.os.set i x } σ (upd H a o) := by
  have hm := List.mem_of_getElem? ha
  have k : ∀ c v, c ≠ a → H c = some v → upd H a o c = some v := fun c v n e => by rw [upd_ne n]; exact e
  refine ⟨fun c v e => k c v (fun q => by subst q; rw [S.alF _ hm] at e; cases e) (S.sub c v e), S.new, fun c v e n => k c v (fun q => ?_) (S.kept c v e n), S.pF, S.pre, S.alnew, S.alF, S.nd, ?_, S.len, S.ln, fun j e hj => ?_, S.dis, fun c hc' => ?_⟩
  · subst q
    rcases S.alnew _ hm with q | q
    · exact n q
    · rw [e] at q; cases q
  · exact Paired.setB S.box ha S.nd hc fun x y n q => q.mono (.refl _) (.refl _) fun v e => k _ v n e
  · have q := S.ent j e hj
    cases e with
    | no => trivial
    | ex c x => exact q
    | val d2 fr =>
      obtain ⟨v, e1, e2⟩ := q
      refine ⟨v, e1, ?_⟩
      unfold ValRel at e2 ⊢
      split
      · rename_i hcc
        rw [if_pos hcc] at e2
        obtain ⟨c, ea, ow2⟩ := e2
        exact ⟨c, ea, ow2.nF, ow2.nB, ow2.nH, ow2.nR, ow2.cl.mono (.refl _) (.refl _) fun v e => k _ v (fun q => ow2.nB (q ▸ hm)) e⟩
      · rename_i hcc
        rw [if_neg hcc] at e2
        exact e2
  · obtain ⟨h3, h4, v, h5⟩ := S.rs c hc'
    exact ⟨h3, h4, v, k c v (fun q => h4 (q ▸ hm)) h5⟩

theorem lisAt_some (S : Sim w xr b g z σ H) {i : Nat} {ds : List D} (h : lisAt z i = some ds) : ∃ a xs, σ[i]? = some (some (.ref a)) ∧ H a = some (.lst xs) ∧ Rps g.F g.al ds xs ∧ ∀ ds' xs', Rps g.F g.al ds' xs' → Sim w xr b g (putL z i ds') σ (upd H a (.lst xs')) := by
  unfold lisAt at h
  split at h
  · rename_i ds0 he
    cases h
    obtain ⟨a, h1, h2, ow⟩ := S.ownAt he (by simp [D.cell])
    obtain ⟨xs, h3, h4⟩ := ow.cl
    refine ⟨a, xs, h1, h3, h4, fun ds' xs' r => ?_⟩
    unfold putL
    rw [he]
    exact S.updOwn he (by simp [D.cell]) (by simp [D.cell]) h1 ⟨xs', upd_same, r⟩
  · rename_i k fr he
    split at h
    · rename_i ds0 hk
      cases h
      obtain ⟨v, h1, h2⟩ := S.ent i _ he
      unfold ValRel at h2
      rw [if_neg (by simp [D.cell])] at h2
      simp only [Rp] at h2
      obtain ⟨a, h3, rfl⟩ := h2
      obtain ⟨a', h4, xs, h5, h6⟩ := S.boxAt hk
      rw [h3] at h4; cases h4
      refine ⟨a, xs, h1, h5, h6, fun ds' xs' r => ?_⟩
      unfold putL
      rw [he]
      exact S.updBox h3 ⟨xs', upd_same, r⟩
    · cases h
  · cases h

/-! ### list.extend, of a list that is only read -/
def rExtR : V → List V → Hp → VK → Prop := fun x vs H Q => ∃ l b xs zs, x = .ref l ∧ vs = [.ref b] ∧ H l = some (.lst xs) ∧ Rd H b (.lst zs) ∧ xs.length + zs.length ≤ sizeLine ∧ Q .non (upd H l (.lst (xs ++ zs)))
theorem mt_extR : MtM X "list.extend" rExtR := by
  intro pins s σ H x vs v us Q I rx rv h
  obtain ⟨l, b, xs, zs, rfl, rfl, hH, hB, hz, q⟩ := h
  cases rx
  obtain ⟨u, rfl, ru⟩ := rv.one
  cases ru
  obtain ⟨z, its, n, r, hl, e⟩ := I.lstM hH
  obtain ⟨z2, its2, n2, r2, e2⟩ := hB.ok I.hok
  have hl2 := r2.length
  have hsz : its.toArray.size + its2.toArray.size ≤ sizeLine := by rw [List.size_toArray, List.size_toArray]; omega
  have hlong : ¬ (!its.toArray.isEmpty && Builtin.List.listTooLong (its.toArray.size + its2.toArray.size)) = true := by
    rw [notLongL hsz, Bool.and_false]
    exact Bool.false_ne_true
  refine call_meets F.slot_list_extend ⟨_, e, rfl⟩ F.entry_list_extend (F.args_list_extend_2 _ _)
    (AutoSeq1.list_extend_list_list_0 l its.toArray n b its2.toArray n2 hlong (by rw [List.size_toArray]; omega) (by omega)) ⟨e, e2, ?_⟩
  refine ⟨.non, _, I.lset (its' := its ++ its2) hH e (by simp) (r.append r2) ?_, rfl, q⟩
  rw [List.length_append]
  omega

/-- one of the methods that change a list -/
structure LMut (X : Cx) (m : Str) (id : String) (r : V → List V → Hp → VK → Prop) : Prop where
  slot : Slot "list" m id
  ty : typeOf (.builtin id) = pure (.type "method_descriptor")
  mt : MtR X id r
  hr : ∀ (w : Wd) (xr : Nat → D → V → Prop) (b : Bs) (g : Gh) (z : Z) (σ : St) (H : Hp) (a : Addr) (xs vs : List V) (ds ys ds' : List D) (Q : VK), Sim w xr b g z σ H → H a = some (.lst xs) → Rps g.F g.al ds xs → Rps g.F g.al ys vs → mutL m ds ys z.os = some ds' →
    (∀ xs', Rps g.F g.al ds' xs' → Q .non (upd H a (.lst xs'))) → r (.ref a) vs H Q
theorem lm_append : LMut X "append" "list.append" rAppend := by
  refine ⟨F.slot_list_append, F.type_list_append, mt_append, fun w xr b g z σ H a xs vs ds ys ds' Q S hH hx hy hm k => ?_⟩
  unfold mutL at hm
  rw [if_pos rfl] at hm
  split at hm
  · rename_i y
    split at hm
    · rename_i hl
      cases hm
      simp only [Rps] at hy
      obtain ⟨v, r, rfl, h1, rfl⟩ := hy
      exact ⟨a, xs, v, rfl, rfl, hH, by rw [Rps.length hx]; exact hl, k _ (Rps.append hx (Rps.cons h1 Rps.nil))⟩
    · cases hm
  · cases hm
theorem lm_extend : LMut X "extend" "list.extend" rExtR := by
  refine ⟨F.slot_list_extend, F.type_list_extend, mt_extR, fun w xr b g z σ H a xs vs ds ys ds' Q S hH hx hy hm k => ?_⟩
  unfold mutL at hm
  rw [if_neg (by decide), if_pos rfl] at hm
  split at hm
  · rename_i y
    split at hm
    · rename_i es he
      split at hm
      · rename_i hl
        cases hm
        simp only [Rps] at hy
        obtain ⟨v, r, rfl, h1, rfl⟩ := hy
        obtain ⟨c, zs, rfl, h2, h3⟩ := rdL_of S (Rb.of S h1) he
        exact ⟨a, c, xs, zs, rfl, rfl, hH, h2, by rw [Rps.length hx, Rps.length h3]; exact hl, k _ (Rps.append hx h3)⟩
      · cases hm
    · cases hm
  · cases hm
def noCall : Expr → Bool
  | .Call .. => false
  | _ => true

theorem s_mut {cf : CF} {i : Nat} {x m : Str} {e : Expr} {es : List Expr} {is : List E} {pos apos cpos pos' : Pos} {id : String} {r : V → List V → Hp → VK → Prop} (L : LMut X m id r) (hN : X.N[i]? = some x) (hv : Vis X.env.scope x) (hd : (x == ("__debug__" : Str)) = false) (hcd : (x == ("__classdict__" : Str)) = false)
    (hs0 : Expr.star e = false) (hs2 : es.all (fun e => !Expr.star e) = true) (hn : (e :: es).length < 30) (hline : (apos.endLine == cpos.line) = true)
    (hsw : swapsWith (.Call (.Attribute (.Name x pos) m apos) (e :: es) [] cpos) none pos'.line X.env = pure false) (h : SndAF w xr X W (e :: es) (evalEs cf is)) :
    SndS w xr X W (.Expr (.Call (.Attribute (.Name x pos) m apos) (e :: es) [] cpos) pos') (execS cf (.mut m i is)) := by
  obtain ⟨t, p, q⟩ := h
  have few : ∀ es : List Expr, es.all (fun e => !Expr.star e) = true → (backTo cpos (starEach es X.env)).all (fun x => !x.1) = true := by
    intro es
    induction es with
    | nil => intro _; rfl
    | cons a es ih =>
      intro h
      simp only [List.all_cons, Bool.and_eq_true] at h
      rw [star_ok (by simpa using h.1)]
      have := ih h.2
      simpa [backTo] using this
  refine ⟨_, ps_expr (pe_bm PySem.F.plainAttrs_list L.slot L.ty L.mt (pe_var hN hv hd hcd) p rfl ?_ hline (star_ok hs0 _ _) (star_any _ _ _ hs2)) hsw, fun b g z σ H D S k => ?_⟩
  · have f1 := few (e :: es) (by simp only [List.all_cons, hs0, hs2]; rfl)
    rw [f1]
    simp only [Bool.true_and, Bool.and_eq_true]
    refine ⟨rfl, ?_⟩
    simpa using hn
  simp only [execS] at k
  split at k
  · rename_i ds0 hl0
    obtain ⟨a, xs, h1, h2, h3, _⟩ := lisAt_some S hl0
    refine ⟨.ref a, h1, ⟨.inl ⟨rfl, xs, .inl (.inl h2)⟩, q b g z σ H _ S ?_⟩⟩
    cases r1 : evalEs cf is z with
    | stuck => rw [r1] at k; exact k
    | exc c x z' => rw [r1] at k; exact exc_of k
    | ok ys z1 =>
      rw [r1] at k
      simp only [R.bind_ok] at k
      intro g1 vs H1 st1 S1 rs
      split at k
      · rename_i ds hl
        split at k
        · rename_i ds' hm
          obtain ⟨a', xs1, h4, h5, h6, h7⟩ := lisAt_some S1 hl
          rw [h1] at h4; cases h4
          exact L.hr w xr b g1 z1 σ H1 a xs1 vs ds ys ds' _ S1 h5 h6 rs hm fun xs' r' => k g1 σ _ st1.le (h7 ds' xs' r')
        · exact k.elim
      · exact k.elim
  · exact k.elim
theorem s_setV {cf : CF} {n : Nat} {x : Str} {ei e : Expr} {ii ie : E} {xpos spos pos : Pos} (hN : X.N[n]? = some x) (hv : Vis X.env.scope x) (hd : (x == ("__debug__" : Str)) = false) (hcd : (x == ("__classdict__" : Str)) = false)
    (ha : ∀ v, assign (.Subscript (.Name x xpos) ei spos) X.env v = (do
      let ov ← holding [v] (eval (.Name x xpos) X.env)
      let iv ← holding [v, ov] (eval ei X.env)
      standAt spos
      holding [v, ov, iv] (setItem ov iv v)
      release [v, ov, iv] []))
    (hs : swapsWithSole [.Subscript (.Name x xpos) ei spos] e pos.line X.env = pure false) (hw : swappedStores [.Subscript (.Name x xpos) ei spos] e X.env = pure none)
    (he : SndE w xr X W e (evalE cf ie)) (hi : SndE w xr X W ei (evalE cf ii)) :
    SndS w xr X W (.Assign [.Subscript (.Name x xpos) ei spos] e pos) (execS cf (.setV n ii ie)) := by
  obtain ⟨t, p, q⟩ := he.F
  obtain ⟨t2, p2, q2⟩ := hi.F
  refine ⟨_, ps_asg p (pg_sub (pe_var hN hv hd hcd) p2 set_list ha) hs hw, fun b g z σ H D S k => q b g z σ H _ S ?_⟩
  simp only [execS] at k
  simp only [fst1]
  cases r1 : evalE cf ie z with
  | stuck => rw [r1] at k; exact k
  | exc c x z' => rw [r1] at k; exact exc_of k
  | ok y z1 =>
    rw [r1] at k
    simp only [R.bind_ok] at k
    intro g1 v H1 st1 S1 rv
    have k1 := PostS.step st1.le k
    split at k1
    · rename_i ds0 hl0
      obtain ⟨a, xs, h1, h2, h3, _⟩ := lisAt_some S1 hl0
      refine ⟨.ref a, h1, q2 b g1 z1 σ H1 _ S1 ?_⟩
      simp only [fst1]
      cases r2 : evalE cf ii z1 with
      | stuck => rw [r2] at k1; exact k1
      | exc c x z' => rw [r2] at k1; exact exc_of k1
      | ok j z2 =>
        rw [r2] at k1
        simp only [R.bind_ok] at k1
        intro g2 jv H2 st2 S2 rj
        split at k1
        · rename_i ds hl
          split at k1
          · rename_i ds' hm
            obtain ⟨a', xs1, h4, h5, h6, h7⟩ := lisAt_some S2 hl
            rw [h1] at h4; cases h4
            unfold setC at hm
            split at hm
            · rename_i kk hj
              obtain ⟨jj, hjj, rfl⟩ := Option.map_eq_some_iff.mp hm
              rw [hj] at rj
              simp only [Rp] at rj
              exact ⟨a, xs1, kk, jj, rfl, rj, h5, by rw [Rps.length h6]; exact hjj, k1 g2 σ _ st2.le (h7 _ _ (Rps.set (Rp.mono st2.F st2.al _ _ rv) jj h6))⟩
            · cases hm
          · exact k1.elim
        · exact k1.elim
    · exact k1.elim

/-! ### methods that change nothing -/
theorem strOk_sub {s : Str} (h : PyData.strOk s = true) (i j : Nat) : PyData.strOk (Builtin.Str.strSub s i j) = true := by
  refine strOk_of h fun c hc => ?_
  have h2 : c ∈ (s.cps.toList.drop i).take (j - i) := by simpa [Builtin.Str.strSub] using hc
  exact List.mem_of_mem_drop (List.mem_of_mem_take h2)
theorem strOk_split {a b : Str} (h : PyData.strOk a = true) : ∀ t ∈ Txt.split a b, PyData.strOk t = true := by
  intro t ht
  unfold Txt.split at ht
  split at ht
  · rw [List.mem_singleton.mp ht]; exact h
  · split at ht
    · rw [List.mem_singleton.mp ht]; exact h
    · unfold Builtin.Str.partsBetween at ht
      simp only [List.mem_map] at ht
      obtain ⟨p, _, rfl⟩ := ht
      exact strOk_sub h _ _
theorem strOk_app {a b : Str} (h : PyData.strOk a = true) (h' : PyData.strOk b = true) : PyData.strOk (a ++ b) = true := by
  unfold PyData.strOk at *
  show (a.cps ++ b.cps).all _ = true
  rw [Array.all_append, h, h']; rfl
theorem strOk_join {a : Str} (h : PyData.strOk a = true) : ∀ ss : List Str, (∀ t ∈ ss, PyData.strOk t = true) → PyData.strOk (Str.join a ss) = true
  | [], _ => by show PyData.strOk Str.empty = true; decide +kernel
  | [x], h' => h' x (by simp)
  | x :: y :: r, h' => by
    show PyData.strOk (x ++ a ++ Str.join a (y :: r)) = true
    exact strOk_app (strOk_app (h' x (by simp)) h) (strOk_join h (y :: r) fun t ht => h' t (List.mem_cons_of_mem _ ht))
theorem strs_rps {F : Hp} {al : List Addr} : ∀ {ds : List D} {vs : List V} {ss : List Str}, Rps F al ds vs → strsO ds = some ss → vs = ss.map V.str ∧ ∀ t ∈ ss, PyData.strOk t = true
  | [], vs, ss, r, e => by
    simp only [Rps] at r
    simp only [strsO] at e; cases e
    exact ⟨r, fun t h => by cases h⟩
  | d :: ds, vs, ss, r, e => by
    simp only [Rps] at r
    obtain ⟨v, u, rfl, r1, r2⟩ := r
    cases d with
    | str s =>
      simp only [strsO] at e
      obtain ⟨ss', e1, rfl⟩ := Option.map_eq_some_iff.mp e
      obtain ⟨h1, h2⟩ := strs_rps r2 e1
      simp only [Rp] at r1
      obtain ⟨rfl, hs⟩ := r1
      refine ⟨by rw [h1]; rfl, fun t ht => ?_⟩
      rcases List.mem_cons.mp ht with rfl | ht
      · exact hs
      · exact h2 t ht
    | _ => simp [strsO] at e
theorem rps_strs {F : Hp} {al : List Addr} : ∀ {ss : List Str}, (∀ t ∈ ss, PyData.strOk t = true) → Rps F al (ss.map D.str) (ss.map V.str)
  | [], _ => Rps.nil
  | s :: ss, h => Rps.cons (by simp [Rp, h s (by simp)]) (rps_strs fun t ht => h t (List.mem_cons_of_mem _ ht))
def mtId : Mt → String
  | .join => "str.join"
  | .find => "str.find"
  | .split => "str.split"
  | .index => "list.index"
def rMt (K : PySem.W.Frag) : Mt → V → List V → Hp → VK → Prop
  | .join => fun x xs H Q => ∃ a p, ∃ ys : List Str, x = .str a ∧ xs = [.ref p] ∧ (SqL K H p (ys.map V.str) ∨ SqT K H p (ys.map V.str)) ∧ (ys.map (·.length)).sum + ys.length * a.length ≤ 16777216 ∧ Q (.str (Txt.join a ys)) H
  | .find => fun x xs H Q => ∃ a b, x = .str a ∧ xs = [.str b] ∧ Q (.int (Txt.find a b)) H
  | .split => fun x xs H Q => ∃ a b, x = .str a ∧ xs = [.str b] ∧ (b.length == 0) = false ∧ a.length + 2 ≤ sizeLine ∧ rNewStrs (Txt.split a b) H Q
  | .index => rIndex K
theorem mt_all : ∀ m : Mt, PlainAttrs (mtTy m) ∧ Slot (mtTy m) (mtName m) (mtId m) ∧ typeOf (.builtin (mtId m)) = pure (.type "method_descriptor") ∧ MtR X (mtId m) (rMt X.K m)
  | .join => ⟨PySem.F.plainAttrs_str, F.slot_str_join, F.type_str_join, mt_join⟩
  | .find => ⟨PySem.F.plainAttrs_str, F.slot_str_find, F.type_str_find, mt_find⟩
  | .split => ⟨PySem.F.plainAttrs_str, F.slot_str_split, F.type_str_split, mt_split⟩
  | .index => ⟨PySem.F.plainAttrs_list, F.slot_list_index, F.type_list_index, mt_index⟩
theorem mtOk_ty (S : Sim w xr b g z σ H) {m : Mt} {x : D} {v : V} (r : Rb w g H x v) (h : mtOk m z.os x = true) : tyV X.K (mtTy m) v H := by
  cases m with
  | index =>
    simp only [mtOk] at h
    obtain ⟨ds, e⟩ := Option.isSome_iff_exists.mp h
    obtain ⟨a, vs, rfl, r1, _⟩ := rdL_of S r e
    exact .inl ⟨rfl, vs, .inl r1⟩
  | _ =>
    simp only [mtOk] at h
    split at h
    · obtain ⟨rfl, _⟩ := r.str
      exact rfl
    · cases h
theorem seq_of (S : Sim w xr b g z σ H) {x : D} {v : V} {ds : List D} (r : Rb w g H x v) (h : seqO z.os x = some ds) : ∃ a vs, v = .ref a ∧ (SqL X.K H a vs ∨ SqT X.K H a vs) ∧ Rps g.F g.al ds vs := by
  unfold seqO at h
  split at h
  · cases h
    obtain ⟨a, vs, rfl, r1, r2⟩ := r.tup S
    exact ⟨a, vs, rfl, .inr (SqT.of r1), r2⟩
  · obtain ⟨a, vs, rfl, r1, r2⟩ := rdL_of S r h
    exact ⟨a, vs, rfl, .inl (.inl r1), r2⟩
theorem mt_hr (m : Mt) {Q : VK} {x : D} {vx : V} {ys : List D} {vs : List V} (S : Sim w xr b g z σ H) (rx : Rb w g H x vx) (rs : Rbs w g H ys vs) (k : PostE w xr W b g σ H Q (ofT z (methD m z.os x ys))) : rMt X.K m vx vs H Q := by
  unfold methD at k
  split at k
  · rename_i a y
    obtain ⟨rfl, ha⟩ := rx.str
    obtain ⟨v, rfl, ry⟩ := rbs1 rs
    split at k
    · rename_i ss hss
      obtain ⟨ds, h1, h2⟩ := Option.bind_eq_some_iff.mp hss
      split at k
      · rename_i hz
        obtain ⟨p, us, rfl, r1, r2⟩ := seq_of (X := X) S ry h1
        obtain ⟨rfl, hok⟩ := strs_rps r2 h2
        exact ⟨a, p, ss, rfl, rfl, r1, hz, PostE.now S (rp_str (by rw [show Txt.join a ss = Str.join a ss from TL.join_eq a ss]; exact strOk_join ha ss hok) _ _) k⟩
      · exact k.elim
    · exact k.elim
  · rename_i a b'
    obtain ⟨rfl, ha⟩ := rx.str
    obtain ⟨v, rfl, ry⟩ := rbs1 rs
    obtain ⟨rfl, hb⟩ := ry.str
    exact ⟨a, b', rfl, rfl, PostE.now S (rp_int _ _) k⟩
  · rename_i a b'
    obtain ⟨rfl, ha⟩ := rx.str
    obtain ⟨v, rfl, ry⟩ := rbs1 rs
    obtain ⟨rfl, hb⟩ := ry.str
    split at k
    · rename_i hz
      exact ⟨a, b', rfl, rfl, hz.1, hz.2, fun p hp => PostE.new (d := .lst ((Txt.split a b').map D.str)) S hp rfl ⟨_, upd_same, rps_strs (strOk_split ha)⟩ k⟩
    · exact k.elim
  · rename_i y
    obtain ⟨v, rfl, ry⟩ := rbs1 rs
    split at k
    · rename_i ds hd
      split at k
      · rename_i hf
        simp only [Bool.and_eq_true] at hf
        obtain ⟨a, us, rfl, r1, r2⟩ := rdL_of S rx hd
        have ry' : Rp g.F g.al y v := by
          cases y <;> simp only [D.flat, Bool.false_eq_true, false_and] at hf <;> exact ry
        cases hj : ds.findIdx? (fun d => eqD d y) with
        | none => rw [hj] at k; exact k.elim
        | some j =>
          rw [hj] at k
          have hj2 := List.findIdx?_eq_some_iff_getElem.mp hj
          obtain ⟨hlt, hp, hno⟩ := hj2
          obtain ⟨z', e1, e2⟩ := Rps.get r2 (List.getElem?_eq_getElem hlt)
          have fl := fun (i : Nat) (hi : i < ds.length) => List.all_eq_true.mp hf.2 ds[i] (List.getElem_mem hi)
          refine ⟨a, us, v, j, z', rfl, rfl, .inl r1, flat_of ry' hf.1, flats_of r2 hf.2, e1, by rw [eqV_of e2 ry' (fl j hlt) hf.1]; exact hp, fun m' z2 hm hz => ?_, PostE.now S (rp_int _ _) k⟩
          have hm2 : m' < ds.length := by omega
          obtain ⟨z3, e3, e4⟩ := Rps.get r2 (List.getElem?_eq_getElem hm2)
          rw [hz] at e3; cases e3
          rw [eqV_of e4 ry' (fl m' hm2) hf.1]
          simpa using hno m' hm
      · exact k.elim
    · exact k.elim
  · exact k.elim
def baseOk : Expr → Bool
  | .Call _ (_ :: _) _ _ => true
  | .Call .. => false
  | _ => true
theorem base_ok {o : Expr} (h : baseOk o = true) (m : Str) (env : Env) (whole : Sem Value) : attributeBase o m env whole = whole := by
  cases o with
  | Call f as ks p =>
    cases as with
    | nil => simp [baseOk] at h
    | cons a as => cases f <;> rfl
  | _ => rfl
theorem few_ok {cpos : Pos} {env : Env} : ∀ es : List Expr, es.all (fun e => !Expr.star e) = true → (backTo cpos (starEach es env)).all (fun x => !x.1) = true := by
  intro es
  induction es with
  | nil => intro _; rfl
  | cons a es ih =>
    intro h
    simp only [List.all_cons, Bool.and_eq_true] at h
    rw [star_ok (by simpa using h.1)]
    have := ih h.2
    simpa [backTo] using this
theorem s_meth {cf : CF} (m : Mt) {o e : Expr} {es : List Expr} {io : E} {is : List E} {apos cpos : Pos} (hb : baseOk o = true) (hs0 : Expr.star e = false) (hs2 : es.all (fun e => !Expr.star e) = true) (hn : (e :: es).length < 30) (hline : (apos.endLine == cpos.line) = true)
    (ho : SndB w xr X W o fun z => fst1 (evalE cf io z)) (ha : SndA w xr X W (e :: es) (evalEs cf is)) : SndE w xr X W (.Call (.Attribute o (mtName m) apos) (e :: es) [] cpos) (evalE cf (.meth m io is)) := by
  obtain ⟨to, po, qo⟩ := ho
  obtain ⟨ta, pa, qa⟩ := ha
  obtain ⟨m1, m2, m3, m4⟩ := mt_all (X := X) m
  refine ⟨_, pe_bm m1 m2 m3 m4 po pa (base_ok hb _ _ _) ?_ hline (star_ok hs0 _ _) (star_any _ _ _ hs2), fun b g z σ H Q S k => qo b g z σ H _ S ?_⟩
  · rw [few_ok (e :: es) (by simp only [List.all_cons, hs0, hs2]; rfl)]
    simp only [Bool.true_and, Bool.and_eq_true]
    exact ⟨rfl, by simpa using hn⟩
  simp only [evalE] at k
  simp only [fst1]
  cases r : evalE cf io z with
  | stuck => rw [r] at k; exact k
  | exc c x z' => rw [r] at k; exact k
  | ok x z1 =>
    rw [r] at k
    simp only [R.bind_ok] at k
    intro g1 v H1 st1 S1 rx
    have k1 := PostE.step S1 st1 k
    split at k1
    · rename_i hok
      refine ⟨mtOk_ty S1 rx hok, qa b g1 z1 σ H1 _ S1 ?_⟩
      cases r2 : evalEs cf is z1 with
      | stuck => rw [r2] at k1; exact k1
      | exc c x z' => rw [r2] at k1; exact k1
      | ok ys z2 =>
        rw [r2] at k1
        simp only [R.bind_ok] at k1
        intro g2 vs H2 st2 S2 rs
        exact mt_hr m S2 (rx.mono st2) rs (PostE.step S2 st2 k1)
    · exact k1.elim
theorem s_dct0 {cf : CF} {pos : Pos} : SndE w xr X W (.Dict [] [] pos) (evalE cf (.dct [] [])) := by
  refine ⟨_, pe_dnewK, fun b g z σ H Q S k => ?_⟩
  simp only [evalE] at k
  exact fun p hp => PostE.new (d := .dct []) S hp rfl (.inl ⟨[], upd_same, by simp [Rkv]⟩) k
end
end Vi

namespace Vi
open PySem L2

/-! ### which text a piece of the small language stands for -/
structure CC where
  N : List Str
  sc : Scope
  top : Bool
  fns : List (Str × Nat × Nat)
  con : List (Str × D)
  free : List Str
inductive Md where
  | v | b | t
def Md.q : Md → Md
  | .t => .t
  | _ => .v
def seen : Option NameKind → Bool
  | some .local => true
  | some .cell => true
  | some .free => true
  | _ => false
def CC.var (cc : CC) (i : Nat) (x : Str) : Bool := decide (cc.N[i]? = some x) && seen (cc.sc.names.lookup x) && !(x == ("__debug__" : Str)) && !(x == ("__classdict__" : Str))
def CC.gl (cc : CC) (x : Str) : Bool := decide (cc.sc.names.lookup x = some .globalImplicit)
def CC.blt (cc : CC) (x : Str) : Bool := cc.gl x && decide (x ∈ cc.free)
def plainT : Expr → Bool
  | .Name .. => true
  | .Call .. => true
  | .Subscript .. => true
  | .Attribute .. => true
  | _ => false
def okT : Md → Expr → Bool
  | .t, e => plainT e
  | _, _ => true
def notSet : Expr → Bool
  | .Set .. => false
  | _ => true
def flatEq : D → D → Bool
  | .non, .non => true
  | .bl a, .bl b => a == b
  | .int a, .int b => decide (a = b)
  | .str a, .str b => decide (a = b)
  | _, _ => false
def isConst (d : D) : Const → Bool
  | .none => flatEq d .non
  | .bool b => flatEq d (.bl b)
  | .int i => flatEq d (.int i)
  | .str s => flatEq d (.str s) && PyData.strOk s
  | _ => false
def kConst (cc : CC) (d : D) : Expr → Bool
  | .Constant c _ _ => isConst d c
  | .Name x _ => cc.gl x && !(x == ("__debug__" : Str)) && (match cc.con.lookup x with
    | some d' => flatEq d d'
    | none => false)
  | _ => false
def callOf : Expr → Option (Str × List Expr)
  | .Call (.Name x _) es [] _ => some (x, es)
  | _ => none
/-- what a loop's source evaluates -/
def itArgs (cc : CC) (k : ItK) (n : Nat) (tg e : Expr) : Option (List Expr) := match k with
  | .val => if n = 1 then some [e] else none
  | .range => match e with
    | .Call (.Name x _) es [] _ => if x = "range" ∧ cc.blt x = true ∧ es.length = n ∧ 1 ≤ n ∧ n ≤ 3 then some es else none
    | _ => none
  | .enum => match e with
    | .Call (.Name x _) es [] _ => match tg with
      | .Tuple _ _ _ => if x = "enumerate" ∧ cc.blt x = true ∧ es.length = n ∧ n = 1 then some es else none
      | _ => none
    | _ => none
  | .zip => match e with
    | .Call (.Name x _) es [] _ => match tg with
      | .Tuple _ _ _ => if x = "zip" ∧ cc.blt x = true ∧ es.length = n ∧ n = 2 then some es else none
      | _ => none
    | _ => none
  | .rev => match e with
    | .Call (.Name x _) es [] _ => if x = "reversed" ∧ cc.blt x = true ∧ es.length = n ∧ n = 1 then some es else none
    | _ => none
mutual
def kG (cc : CC) : Tg → Expr → Bool
  | .nm i, e => match e with
    | .Name x _ => decide (cc.N[i]? = some x) && (decide (cc.sc.names.lookup x = some .local) || (cc.top && decide (cc.sc.names.lookup x = some .cell)))
    | _ => false
  | .tp ts, e => match e with
    | .Tuple es _ _ => kGs cc ts es
    | _ => false
def kGs (cc : CC) : List Tg → List Expr → Bool
  | [], [] => true
  | t :: ts, e :: es => !Expr.star e && kG cc t e && kGs cc ts es
  | _, _ => false
end
def ownOf (N : List Str) (vs : List Nat) : List (Str × Nat) := vs.map fun i => (N.getD i "", i)
def blkB (N : List Str) (sc scope : Scope) (own : List (Str × Nat)) : Bool :=
  decide (scope.kind = .function) && decide (∀ y ∈ scope.names, scope.names.lookup y.1 = some y.2) && decide (∀ p ∈ own, N[p.2]? = some p.1) &&
  decide (∀ y ∈ scope.names, y.2 = .free → sc.names.lookup y.1 = some .cell ∨ sc.names.lookup y.1 = some .free) &&
  decide (∀ y ∈ scope.names, y.2 = .local ∨ y.2 = .cell → y.1 ∈ own.map (·.1) ∨ y.1 ∉ N)
def CC.inner (cc : CC) (scope : Scope) : CC := { cc with sc := relS scope cc.sc, top := false }
def notSetIt : Expr → Bool := notSet
def subSl : Option Expr → Nat → Bool
  | none, n => n == 0
  | some _, n => n == 1

mutual
def kE : CC → Md → E → Expr → Bool
  | cc, md, .c d, e => okT md e && kConst cc d e
  | cc, md, .v i, e => okT md e && (match e with
    | .Name x _ => cc.var i x
    | _ => false)
  | cc, md, .b i, e => (match md with
    | .b => true
    | _ => false) && (match e with
    | .Name x _ => cc.var i x
    | _ => false)
  | cc, md, .tup is, e => okT md e && (match e with
    | .Tuple es _ _ => decide (es.length ≤ 1000) && kEs cc .v is es
    | _ => false)
  | cc, md, .lst is, e => okT md e && (match e with
    | .List es _ => decide (es.length ≤ 1000) && kEs cc .v is es
    | _ => false)
  | cc, md, .dct [] [], e => okT md e && (match e with
    | .Dict ks vs _ => ks.isEmpty && vs.isEmpty
    | _ => false)
  | cc, md, .dct _ _, e => false
  | cc, md, .box i, e => okT md e && kE cc .v i e
  | cc, md, .bin o a b, e => okT md e && (match e with
    | .BinOp ea op eb _ => decide (op = bopO o) && kE cc .b a ea && kE cc .b b eb
    | _ => false)
  | cc, md, .neg a, e => okT md e && (match e with
    | .UnaryOp .USub ea _ => kE cc .b a ea
    | _ => false)
  | cc, md, .not a, e => (match e with
    | .UnaryOp .Not ea _ => kE cc md.q a ea
    | _ => false)
  | cc, md, .cmp o a b, e => (match e with
    | .Compare ea ops ebs _ => match ebs with
      | [eb] => decide (ops = [copO o]) && notSet eb && kE cc .b a ea && kE cc .b b eb
      | _ => false
    | _ => false)
  | cc, md, .chain o o' a b c, e => (match e with
    | .Compare ea ops ebs _ => match ebs with
      | [eb, ec] => decide (ops = [copO o, copO o']) && notSet ec && kE cc .b a ea && kE cc .b b eb && kE cc .b c ec
      | _ => false
    | _ => false)
  | cc, md, .and a b, e => (match e with
    | .BoolOp .And es pos => match es with
      | [ea, eb] => kE cc md.q a ea && kE cc md.q b eb
      | ea :: eb :: ec :: rest => kE cc md.q a ea && kE cc md.q b (.BoolOp .And (eb :: ec :: rest) pos)
      | _ => false
    | _ => false)
  | cc, md, .or a b, e => (match e with
    | .BoolOp .Or es pos => match es with
      | [ea, eb] => kE cc md.q a ea && kE cc md.q b eb
      | ea :: eb :: ec :: rest => kE cc md.q a ea && kE cc md.q b (.BoolOp .Or (eb :: ec :: rest) pos)
      | _ => false
    | _ => false)
  | cc, md, .ite c a b, e => okT md e && (match e with
    | .IfExp ec ea eb _ => kE cc .t c ec && kE cc .v a ea && kE cc .v b eb
    | _ => false)
  | cc, md, .ix a i, e => okT md e && (match e with
    | .Subscript ea ei _ => !Expr.slice ei && kE cc .b a ea && kE cc .b i ei
    | _ => false)
  | cc, md, .sl a lo hi, e => okT md e && (match e with
    | .Subscript ea (.Slice l h none _) _ => kE cc .b a ea && kEs cc .b lo l.toList && kEs cc .b hi h.toList
    | _ => false)
  | cc, md, .rev a, e => okT md e && (match e with
    | .Subscript ea (.Slice none none (some (.UnaryOp .USub (.Constant (.int i) _ _) _)) _) _ => decide (i = 1) && kE cc .b a ea
    | _ => false)
  | cc, md, .fld a f, e => false
  | cc, md, .call f is, e => okT md e && (match e with
    | .Call (.Name x _) es [] _ => cc.gl x && !(x == ("__debug__" : Str)) && decide (cc.fns.lookup x = some (f, is.length)) && kEs cc .v is es
    | _ => false)
  | cc, md, .mk c is, e => false
  | cc, md, .meth m o is, e => okT md e && (match e with
    | .Call (.Attribute eo x ap) (e0 :: es) [] cp => decide (x = mtName m) && baseOk eo && decide ((e0 :: es).length < 30) && (ap.endLine == cp.line) && kE cc .b o eo && kEs cc .b is (e0 :: es)
    | _ => false)
  | cc, md, .fn f is, e => okT md e && (match e with
    | .Call (.Name x _) (e0 :: es) [] _ => decide (x = fnName f) && cc.blt x && kEs cc .b is (e0 :: es)
    | _ => false)
  | cc, md, .isi i ts, e => okT md e && (match e with
    | .Call (.Name x _) [e0, .Name y _] [] _ => decide (x = "isinstance") && cc.blt x && cc.blt y && (match ts with
      | [t] => match tyName t with
        | some m => decide (bootBuiltins y = some (.type m)) && !(y == ("__name__" : Str)) && !(y == ("__debug__" : Str))
        | none => false
      | _ => false) && !Expr.star e0 && kE cc .b i e0
    | _ => false)
  | cc, md, .comp elt tg k src [], e => okT md e && (match e with
    | .ListComp eelt gens scope _ => match gens with
      | [⟨etg, eit, ifs, asy⟩] => decide (asy = 0) && ifs.isEmpty && notSet eit && blkB cc.N cc.sc scope (ownOf cc.N tg.slots) && kG (cc.inner scope) tg etg && kE (cc.inner scope) .v elt eelt &&
        (match itArgs cc k src.length etg eit with
        | some es => kEs cc .b src es
        | none => false)
      | _ => false
    | _ => false)
  | cc, md, .comp elt tg k src (c :: cs), e => okT md e && (match e with
    | .ListComp eelt gens scope _ => match gens with
      | [⟨etg, eit, ifs, asy⟩] => decide (asy = 0) && notSet eit && blkB cc.N cc.sc scope (ownOf cc.N tg.slots) && kG (cc.inner scope) tg etg && kE (cc.inner scope) .v elt eelt &&
        (match ifs with
        | [ec] => kE (cc.inner scope) .t c ec
        | _ => false) &&
        (match itArgs cc k src.length etg eit with
        | some es => kEs cc .b src es
        | none => false)
      | _ => false
    | _ => false)
def kEs : CC → Md → List E → List Expr → Bool
  | _, _, [], [] => true
  | cc, md, i :: is, e :: es => !Expr.star e && kE cc md i e && kEs cc md is es
  | _, _, _, _ => false
end
end Vi

namespace Vi
open PySem L2

structure Good (w : Wd) (X : Cx) (W : WX) (cf : CF) (cc : CC) (lv : Nat) : Prop where
  hN : X.N = cc.N
  nd : cc.N.Nodup
  m : cc.N.length = w.m
  sc : X.env.scope = cc.sc
  calm : X.calm = true
  top : cc.top = true → ∀ x, X.fn x = true
  fns : ∀ x i n, cc.fns.lookup x = some (i, n) → ∃ fa fd ps, FnOk X.prog X.w X.K X.mg X.base (L2.CX X.prog X.w) lv fa fd ps (spR w.cad n (cf.call i)) ∧ X.mg x = some (.ref fa) ∧ PySem.W.keepIn X.K (.ref fa) = true ∧ Binds X.K fd ps []
  room : Room lv X.A
  free : ∀ x ∈ cc.free, X.mg x = none
  con : ∀ x d, cc.con.lookup x = some d → ∃ u v, X.mg x = some u ∧ RelV v u ∧ ∀ F al, Rp F al d v
  tk : Takes X W
def SndW (w : Wd) (xr : Nat → D → V → Prop) (X : Cx) (W : WX) (e : Expr) (f : Z → R Z (D × Bool)) : Prop :=
  ∃ t, PW X e t ∧ ∀ b g z σ H Q, Sim w xr b g z σ H → PostT w xr W b g σ H Q (f z) → t σ H Q
def SndM (w : Wd) (xr : Nat → D → V → Prop) (X : Cx) (W : WX) (cf : CF) (e : Expr) (i : E) : Md → Prop
  | .v => SndE w xr X W e (evalE cf i)
  | .b => SndB w xr X W e fun z => fst1 (evalE cf i z)
  | .t => SndT w xr X W e (evalE cf i) ∧ ∀ op es pos, e = .BoolOp op es pos → SndW w xr X W e (evalE cf i)
def SndL (w : Wd) (xr : Nat → D → V → Prop) (X : Cx) (W : WX) (cf : CF) (es : List Expr) (is : List E) : Md → Prop
  | .v => SndAF w xr X W es (evalEs cf is)
  | .b => SndA w xr X W es (evalEs cf is) ∧ ∀ i e, is = [i] → es = [e] → SndB w xr X W e fun z => fst1 (evalE cf i z)
  | .t => True

section
variable {w : Wd} {xr : Nat → D → V → Prop} {X : Cx} {W : WX} {cf : CF} {cc : CC} {lv : Nat} {e : Expr} {i : E}
theorem Good.units (G : Good w X W cf cc lv) : X.A.units + 64 < cLine := by have := G.room.un; omega
theorem Good.inner (G : Good w X W cf cc lv) (scope : Scope) (c : BC) : Good w (blkOf X scope c) W0 cf (cc.inner scope) lv where
  hN := G.hN
  nd := G.nd
  m := G.m
  sc := by
    show relabel scope X.env = relS scope cc.sc
    rw [← G.sc]; rfl
  calm := G.calm
  top := fun h => by cases h
  fns := G.fns
  room := G.room
  free := G.free
  con := G.con
  tk := takes0
theorem plainT_true (env : Env) (h : plainT e = true) : ∀ whole, isTrue e env whole = (do let v ← whole; standAt e.pos; holding [v] (truthy v)) := by
  cases e <;> first | (simp [plainT] at h; done) | (intro whole; rfl)
theorem fin_md {md : Md} (h : okT md e = true) (s : SndE w xr X W e (evalE cf i)) : SndM w xr X W cf e i md := by
  cases md with
  | v => exact s
  | b => exact s.B
  | t =>
    refine ⟨s.T (plainT_true _ h), fun op es pos he => ?_⟩
    subst he; simp [okT, plainT] at h
theorem fin_cmp {md : Md} (hb : ∀ op es pos, e ≠ .BoolOp op es pos) (s : SndP w xr W (fun t => PE X e t ∧ PT X e (tTest t)) (evalE cf i)) : SndM w xr X W cf e i md := by
  cases md with
  | v => exact s.E
  | b => exact s.E.B
  | t => exact ⟨s.T, fun op es pos he => absurd he (hb _ _ _)⟩
theorem var_ok (G : Good w X W cf cc lv) {n : Nat} {x : Str} (h : cc.var n x = true) : X.N[n]? = some x ∧ Vis X.env.scope x ∧ (x == ("__debug__" : Str)) = false ∧ (x == ("__classdict__" : Str)) = false := by
  unfold CC.var at h
  simp only [Bool.and_eq_true, decide_eq_true_eq, Bool.not_eq_true'] at h
  obtain ⟨⟨⟨h1, h2⟩, h3⟩, h4⟩ := h
  refine ⟨by rw [G.hN]; exact h1, ?_, h3, h4⟩
  unfold Vis
  rw [G.sc]
  unfold seen at h2
  split at h2 <;> first | (rename_i q; rw [q]; simp; done) | cases h2
theorem gl_ok (G : Good w X W cf cc lv) {x : Str} (h : cc.gl x = true) : Gl X x := by
  unfold CC.gl at h
  unfold Gl Env.kindOf
  rw [G.sc]
  exact of_decide_eq_true h
theorem blt_ok (G : Good w X W cf cc lv) {x : Str} (h : cc.blt x = true) : Gl X x ∧ X.mg x = none := by
  unfold CC.blt at h
  simp only [Bool.and_eq_true, decide_eq_true_eq] at h
  exact ⟨gl_ok G h.1, G.free _ h.2⟩
theorem flatEq_eq {a b : D} (h : flatEq a b = true) : a = b := by
  unfold flatEq at h
  split at h <;> simp_all
theorem const_ok (G : Good w X W cf cc lv) {d : D} (h : kConst cc d e = true) : SndE w xr X W e (evalE cf (.c d)) := by
  have ev : (evalE cf (.c d)) = fun z => .ok (d, false) z := by funext z; simp only [evalE]
  rw [ev]
  unfold kConst at h
  split at h
  · unfold isConst at h
    split at h
    · rw [flatEq_eq h]; exact s_c pe_non rp_non
    · rw [flatEq_eq h]; exact s_c pe_bl rp_bl
    · rw [flatEq_eq h]; exact s_c pe_int rp_int
    · simp only [Bool.and_eq_true] at h
      rw [flatEq_eq h.1]; exact s_c pe_str (rp_str h.2)
    · cases h
  · simp only [Bool.and_eq_true, Bool.not_eq_true'] at h
    obtain ⟨⟨h1, h2⟩, h3⟩ := h
    split at h3
    · rename_i d' hd
      rw [flatEq_eq h3]
      obtain ⟨u, v, e1, e2, e3⟩ := G.con _ _ hd
      exact s_c (pe_glob (gl_ok G h1) e1 e2 h2) e3
    · cases h3
  · cases h
theorem notSet_ok (h : notSet e = true) (op : CmpOp) : behindInMarks op e = false := nomarks e (fun es k p q => by subst q; simp [notSet] at h) op
theorem notSet_it (h : notSet e = true) (env : Env) : ∀ x, foldedSetIterable e env x = pure x := by
  intro x
  cases e <;> first | rfl | (simp [notSet] at h)
theorem one_star (h : Expr.star e = false) (env : Env) : starEach [e] env = [(false, eval e env)] := by
  rw [star_ok h]; rfl

mutual
theorem kG_ok (G : Good w X W cf cc lv) : ∀ (t : Tg) (e : Expr), kG cc t e = true → SndG w xr X e t
  | .nm i, e, h => by
    simp only [kG] at h
    split at h
    · rename_i x p
      simp only [Bool.and_eq_true, Bool.or_eq_true, decide_eq_true_eq] at h
      obtain ⟨h1, h2⟩ := h
      have hm : X.N.length = w.m := by rw [G.hN]; exact G.m
      have hN : X.N.Nodup := by rw [G.hN]; exact G.nd
      have hi : X.N[i]? = some x := by rw [G.hN]; exact h1
      rcases h2 with h2 | ⟨h2, h3⟩
      · exact g_nm hm hN hi (.inl (by rw [G.sc]; exact h2)) (.inr (by rw [G.sc]; exact h2))
      · exact g_nm hm hN hi (.inr (by rw [G.sc]; exact h3)) (.inl (G.top h2 x))
    · cases h
  | .tp ts, e, h => by
    simp only [kG] at h
    split at h
    · rename_i es k p
      obtain ⟨h1, h2, h3⟩ := kGs_ok G ts es h
      exact g_tp G.calm h2 h3 h1
    · cases h
theorem kGs_ok (G : Good w X W cf cc lv) : ∀ (ts : List Tg) (es : List Expr), kGs cc ts es = true → SndGs w xr X es ts ∧ (assignEach es X.env).length = ts.length ∧ (assignEach es X.env).findIdx? (·.1) = none
  | [], [], h => ⟨gs_nil, rfl, rfl⟩
  | [], e :: es, h => by simp [kGs] at h
  | t :: ts, [], h => by simp [kGs] at h
  | t :: ts, e :: es, h => by
    simp only [kGs, Bool.and_eq_true, Bool.not_eq_true'] at h
    obtain ⟨⟨h1, h2⟩, h3⟩ := h
    have a1 := kG_ok G t e h2
    obtain ⟨b1, b2, b3⟩ := kGs_ok G ts es h3
    have e1 : assignEach (e :: es) X.env = (false, assign e X.env) :: assignEach es X.env := by
      cases e <;> first | rfl | (simp [Expr.star] at h1)
    refine ⟨gs_cons (by rw [e1]; rfl) a1 b1, by rw [e1]; simp [b2], ?_⟩
    rw [e1, List.findIdx?_cons]
    simp [b3]
end
end
end Vi

namespace Vi
open PySem L2

section
variable {w : Wd} {xr : Nat → D → V → Prop} {X : Cx} {W : WX} {cf : CF} {cc : CC} {lv : Nat} {e : Expr} {i : E}
theorem blk_ok {N : List Str} {sc scope : Scope} {own : List (Str × Nat)} (h : blkB N sc scope own = true) : BlkOk N sc scope own := by
  unfold blkB at h
  simp only [Bool.and_eq_true, decide_eq_true_eq] at h
  obtain ⟨⟨⟨⟨h1, h2⟩, h3⟩, h4⟩, h5⟩ := h
  exact ⟨h1, h2, h3, h4, h5⟩
theorem own_snd (N : List Str) (vs : List Nat) : (ownOf N vs).map (·.2) = vs := by
  unfold ownOf
  rw [List.map_map]
  exact List.map_id' vs
theorem pa_stars {X : Cx} (es : List Expr) (h : ∀ e ∈ es, Expr.star e = false) : es.all (fun e => !Expr.star e) = true := by
  rw [List.all_eq_true]
  intro e he
  rw [h e he]; rfl
theorem it_call (G : Good w X W cf cc lv) {k : ItK} {tg eit : Expr} {es : List Expr} {src : List E} (hk : k ≠ .val) (h : itArgs cc k src.length tg eit = some es) (hs : ∀ e ∈ es, Expr.star e = false) :
    ∃ r : List V → Hp → (It → Hp → Prop) → Prop, (∀ ta, PA X es ta → PI X tg eit (fun σ H N => ta σ H fun vs H1 => r vs H1 N)) ∧
      (∀ b g z σ H N ds xs vs, ds.length = src.length → Sim w xr b g z σ H → Rbs w g H ds vs → srcOf z.os k ds = some xs → N (Jof X.K k ds vs xs.length) H → r vs H N) := by
  unfold itArgs at h
  split at h
  · exact absurd rfl hk
  · split at h
    · rename_i x p es' pos
      split at h
      · rename_i hc
        cases h
        obtain ⟨rfl, hb, hlen, h1, h3⟩ := hc
        obtain ⟨gx, mx⟩ := blt_ok G hb
        match es, hlen with
        | [a], hlen =>
          have hs1 : src.length = 1 := hlen.symm
          exact ⟨rRng1, fun ta pa => pi_range1 gx mx pa (one_star (hs a (by simp)) _), fun b g z σ H N ds xs vs hl => hr_rng1 b g z σ H N ds xs vs (hl.trans hs1)⟩
        | [a, c], hlen =>
          have hs1 : src.length = 2 := hlen.symm
          exact ⟨rRng2, fun ta pa => pi_range2 gx mx pa (by rw [star_ok (hs a (by simp)), one_star (hs c (by simp))]) (one_star (hs c (by simp)) _), fun b g z σ H N ds xs vs hl => hr_rng2 b g z σ H N ds xs vs (hl.trans hs1)⟩
        | [a, c, d], hlen =>
          have hs1 : src.length = 3 := hlen.symm
          exact ⟨rRng3, fun ta pa => pi_range3 gx mx pa (star_ok (hs a (by simp)) _ _) (star_any _ _ _ (pa_stars (X := X) [c, d] fun e he => hs e (List.mem_cons_of_mem _ he))), fun b g z σ H N ds xs vs hl => hr_rng3 b g z σ H N ds xs vs (hl.trans hs1)⟩
        | [], hlen => rw [← hlen] at h1; exact absurd h1 (by decide)
        | _ :: _ :: _ :: _ :: _, hlen => rw [← hlen] at h3; simp at h3
      · cases h
    · cases h
  · split at h
    · rename_i x p es' pos
      split at h
      · split at h
        · rename_i hc
          cases h
          obtain ⟨rfl, hb, hlen, h1⟩ := hc
          obtain ⟨gx, mx⟩ := blt_ok G hb
          match es, hlen with
          | [a], hlen => exact ⟨rEnum X.K, fun ta pa => pi_enum gx mx pa (one_star (hs a (by simp)) _), fun b g z σ H N ds xs vs hl => hr_enum b g z σ H N ds xs vs (hl.trans h1)⟩
          | [], hlen => rw [h1] at hlen; cases hlen
          | _ :: _ :: _, hlen => rw [h1] at hlen; simp at hlen
        · cases h
      · cases h
    · cases h
  · split at h
    · rename_i x p es' pos
      split at h
      · split at h
        · rename_i hc
          cases h
          obtain ⟨rfl, hb, hlen, h1⟩ := hc
          obtain ⟨gx, mx⟩ := blt_ok G hb
          match es, hlen with
          | [a, c], hlen => exact ⟨rZip X.K, fun ta pa => pi_zip gx mx pa (star_ok (hs a (by simp)) _ _) (star_any _ _ _ (pa_stars (X := X) [c] fun e he => hs e (List.mem_cons_of_mem _ he))), fun b g z σ H N ds xs vs hl => hr_zip b g z σ H N ds xs vs (hl.trans h1)⟩
          | [], hlen => rw [h1] at hlen; cases hlen
          | [_], hlen => rw [h1] at hlen; cases hlen
          | _ :: _ :: _ :: _, hlen => rw [h1] at hlen; simp at hlen
        · cases h
      · cases h
    · cases h
  · split at h
    · rename_i x p es' pos
      split at h
      · rename_i hc
        cases h
        obtain ⟨rfl, hb, hlen, h1⟩ := hc
        obtain ⟨gx, mx⟩ := blt_ok G hb
        match es, hlen with
        | [a], hlen => exact ⟨rRevs X.K, fun ta pa => pi_reversed gx mx pa (one_star (hs a (by simp)) _), fun b g z σ H N ds xs vs hl => hr_rev b g z σ H N ds xs vs (hl.trans h1)⟩
        | [], hlen => rw [h1] at hlen; cases hlen
        | _ :: _ :: _, hlen => rw [h1] at hlen; simp at hlen
      · cases h
    · cases h
theorem kEs_len : ∀ (cc : CC) (md : Md) (is : List E) (es : List Expr), kEs cc md is es = true → is.length = es.length ∧ ∀ e ∈ es, Expr.star e = false
  | cc, md, [], [], h => ⟨rfl, fun e he => by cases he⟩
  | cc, md, [], e :: es, h => by simp [kEs] at h
  | cc, md, i :: is, [], h => by simp [kEs] at h
  | cc, md, i :: is, e :: es, h => by
    simp only [kEs, Bool.and_eq_true, Bool.not_eq_true'] at h
    obtain ⟨a, c⟩ := kEs_len cc md is es h.2
    refine ⟨by simp [a], fun e' he => ?_⟩
    rcases List.mem_cons.mp he with rfl | he
    · exact h.1.1
    · exact c e' he
theorem as_v {md : Md} (h : ∀ md', SndM w xr X W cf e i md') : SndM w xr X W cf e i md := h md
theorem SndT.E : True := trivial
theorem pw1_and {ea : Expr} {pos : Pos} {f : Z → R Z (D × Bool)} (h : SndT w xr X W ea f) : SndW w xr X W (.BoolOp .And [ea] pos) f := by
  obtain ⟨t, p, q⟩ := h
  exact ⟨t, pw_and1 p, q⟩
theorem pw1_or {ea : Expr} {pos : Pos} {f : Z → R Z (D × Bool)} (h : SndT w xr X W ea f) : SndW w xr X W (.BoolOp .Or [ea] pos) f := by
  obtain ⟨t, p, q⟩ := h
  exact ⟨t, pw_or1 p, q⟩
theorem SndW.T {f : Z → R Z (D × Bool)} (h : SndW w xr X W e f) : SndT w xr X W e f := by
  obtain ⟨t, p, q⟩ := h
  exact ⟨t, p.pt, q⟩
theorem md_v {md : Md} {f : Prop} : (∀ md, md = Md.v ∨ md = Md.b ∨ md = Md.t) := fun md => by cases md <;> simp
theorem dlen_ok {is : List E} : ∀ z ds z', evalEs cf is z = .ok ds z' → ds.length = is.length := fun z ds z' h => evalEs_length _ _ _ _ h
end
end Vi

namespace Vi
open PySem L2

theorem and_ok {w : Wd} {xr : Nat → D → V → Prop} {X : Cx} {W : WX} {cf : CF} {ea eb : Expr} {rest : List Expr} {a b : E} {pos : Pos} {md : Md}
    (ha : SndM w xr X W cf ea a md.q) (hb : SndM w xr X W cf (.BoolOp .And (eb :: rest) pos) b md.q) : SndM w xr X W cf (.BoolOp .And (ea :: eb :: rest) pos) (.and a b) md := by
  cases md with
  | v => exact s_and ha hb
  | b => exact (s_and ha hb).B
  | t =>
    have := t_and (cf := cf) (ia := a) (ib := b) ha.1 (hb.2 _ _ _ rfl)
    exact ⟨(show SndW w xr X W _ _ from this).T, fun op es pos' he => this⟩
theorem or_ok {w : Wd} {xr : Nat → D → V → Prop} {X : Cx} {W : WX} {cf : CF} {ea eb : Expr} {rest : List Expr} {a b : E} {pos : Pos} {md : Md}
    (ha : SndM w xr X W cf ea a md.q) (hb : SndM w xr X W cf (.BoolOp .Or (eb :: rest) pos) b md.q) : SndM w xr X W cf (.BoolOp .Or (ea :: eb :: rest) pos) (.or a b) md := by
  cases md with
  | v => exact s_or ha hb
  | b => exact (s_or ha hb).B
  | t =>
    have := t_or (cf := cf) (ia := a) (ib := b) ha.1 (hb.2 _ _ _ rfl)
    exact ⟨(show SndW w xr X W _ _ from this).T, fun op es pos' he => this⟩
theorem one_and {w : Wd} {xr : Nat → D → V → Prop} {X : Cx} {W : WX} {cf : CF} {eb : Expr} {b : E} {pos : Pos} {md : Md} (h : SndM w xr X W cf eb b md.q) :
    SndM w xr X W cf (.BoolOp .And [eb] pos) b md.q := by
  cases md with
  | v => exact s_bone h
  | b => exact s_bone h
  | t => exact ⟨(pw1_and h.1).T, fun op es pos' he => by cases he; exact pw1_and h.1⟩
theorem one_or {w : Wd} {xr : Nat → D → V → Prop} {X : Cx} {W : WX} {cf : CF} {eb : Expr} {b : E} {pos : Pos} {md : Md} (h : SndM w xr X W cf eb b md.q) :
    SndM w xr X W cf (.BoolOp .Or [eb] pos) b md.q := by
  cases md with
  | v => exact s_bone h
  | b => exact s_bone h
  | t => exact ⟨(pw1_or h.1).T, fun op es pos' he => by cases he; exact pw1_or h.1⟩
theorem pe_callS0 {X : Cx} {CX : CXT} {k : Nat} {f : Addr} {fd : FuncData} {ps : List Str} {sp : Sp} {E : St → XK} {x : Str} {p pos : Pos} (F : FnOk X.prog X.w X.K X.mg X.base CX k f fd ps sp) (hr : Room k X.A) (hg : Gl X x) (hm : X.mg x = some (.ref f)) (hk : PySem.W.keepIn X.K (.ref f) = true) (hb : Binds X.K fd ps []) (hx : ∀ σ, PassesAt CX X σ (E σ))
    (hdb : (x == ("__debug__" : Str)) = false) : PE X (.Call (.Name x p) [] [] pos) (tCallS sp E tNil) :=
  ⟨fun pins s σ H Q I h => wpAny_Call_Name_kw (ld_glob I hg hm (PySem.W.callWith_K0 I.kIn hk (run_fnS F hr hb (hx σ) I .nil h)) hdb)⟩
theorem call_ok {w : Wd} {xr : Nat → D → V → Prop} {X : Cx} {W : WX} {cf : CF} {cc : CC} {lv : Nat} (G : Good w X W cf cc lv) {f : Nat} {is : List E} {x : Str} {p pos : Pos} {es : List Expr} (h1 : cc.gl x = true) (h2 : (x == ("__debug__" : Str)) = false) (h3 : cc.fns.lookup x = some (f, is.length)) (hl : is.length = es.length) (hs : ∀ e ∈ es, Expr.star e = false)
    (ha : SndAF w xr X W es (evalEs cf is)) : SndE w xr X W (.Call (.Name x p) es [] pos) (evalE cf (.call f is)) := by
  obtain ⟨fa, fd, ps, F, e1, e2, e3⟩ := G.fns _ _ _ h3
  cases es with
  | cons e es => exact s_call G.tk F G.room (gl_ok G h1) e1 e2 e3 h2 (hs e (by simp)) (pa_stars (X := X) es fun e' he => hs e' (List.mem_cons_of_mem _ he)) rfl ha
  | nil =>
    have hn : is = [] := List.length_eq_zero_iff.mp hl
    subst hn
    refine ⟨_, pe_callS0 F G.room (gl_ok G h1) e1 e2 e3 (fun σ => passAt G.tk σ) h2, fun b g z σ H Q S k => ?_⟩
    simp only [evalE, evalEs, R.bind_ok] at k
    exact call_hr S Rps.nil rfl k
theorem comp_ok {w : Wd} {xr : Nat → D → V → Prop} {X : Cx} {W : WX} {cf : CF} {cc : CC} {lv : Nat} (G : Good w X W cf cc lv) {k : ItK} {tg : Tg} {src : List E} {elt : E} {eelt etg eit : Expr} {ifs : List Expr} {scope : Scope} {pos : Pos} {es : List Expr} {fc : Z → R Z (D × Bool)}
    (hn : notSet eit = true) (hb : blkB cc.N cc.sc scope (ownOf cc.N tg.slots) = true) (hg : kG (cc.inner scope) tg etg = true) (ht : ∀ c, SndTs w xr (blkOf X scope c) W0 ifs fc) (he : ∀ c, SndE w xr (blkOf X scope c) W0 eelt (evalE cf elt))
    (hi : itArgs cc k src.length etg eit = some es) (hs : ∀ e ∈ es, Expr.star e = false) (ha : SndA w xr X W es (evalEs cf src)) (h1 : ∀ i, src = [i] → k = .val → SndB w xr X W eit fun z => fst1 (evalE cf i z)) :
    SndE w xr X W (.ListComp eelt [⟨etg, eit, ifs, 0⟩] scope pos) (fun z => (evalEs cf src z).bind fun ds z => compK tg k fc (evalE cf elt) ds z) := by
  have si : SndI w xr X W etg eit k (evalEs cf src) := by
    by_cases hk : k = .val
    · subst hk
      simp only [itArgs] at hi
      split at hi
      · rename_i hl
        obtain ⟨i, rfl⟩ := List.length_eq_one_iff.mp hl
        exact i_val (h1 i rfl rfl)
      · cases hi
    · obtain ⟨r, r1, r2⟩ := it_call (xr := xr) G hk hi hs
      exact i_call ha r1 r2
  exact s_lc G.calm (by rw [G.hN]; exact G.nd) (blk_ok (by rw [G.hN, G.sc]; exact hb)) (own_snd _ _) (notSet_it hn _) (lc_ok si (fun c => kG_ok (G.inner scope c) tg etg hg) ht fun c => (he c).F)

section
variable {w : Wd} {xr : Nat → D → V → Prop} {cf : CF} {lv : Nat}
theorem ev_fun {cf : CF} {i : E} : (fun z => evalE cf i z) = evalE cf i := rfl
theorem o_ok {X : Cx} {W : WX} {l : Option Expr} {is : List E} {cc : CC} (h : kEs cc .b is l.toList = true) (h' : ∀ i e, is = [i] → l = some e → SndB w xr X W e fun z => fst1 (evalE cf i z)) : SndO w xr X W l (evalEs cf is) := by
  cases l with
  | none =>
    cases is with
    | nil => exact o_none
    | cons i is => simp [kEs] at h
  | some e =>
    match is, h with
    | [i], h => exact o_some (h' i e rfl rfl)
    | [], h => simp [kEs] at h
    | _ :: _ :: _, h => simp [kEs] at h
mutual
theorem kE_ok : ∀ (i : E) (cc : CC) (md : Md) (e : Expr) (X : Cx) (W : WX), Good w X W cf cc lv → kE cc md i e = true → SndM w xr X W cf e i md
  | .c d, cc, md, e, X, W, G, h => by
    simp only [kE, Bool.and_eq_true] at h
    exact fin_md h.1 (const_ok G h.2)
  | .v i, cc, md, e, X, W, G, h => by
    simp only [kE, Bool.and_eq_true] at h
    obtain ⟨h0, h⟩ := h
    split at h
    · obtain ⟨a, b, c, d⟩ := var_ok G h
      exact fin_md h0 (s_v a b c d)
    · cases h
  | .b i, cc, md, e, X, W, G, h => by
    simp only [kE, Bool.and_eq_true] at h
    obtain ⟨h0, h⟩ := h
    cases md with
    | b =>
      split at h
      · obtain ⟨a, b, c, d⟩ := var_ok G h
        exact s_b a b c d
      · cases h
    | v => cases h0
    | t => cases h0
  | .tup is, cc, md, e, X, W, G, h => by
    simp only [kE, Bool.and_eq_true] at h
    obtain ⟨h0, h⟩ := h
    split at h
    · simp only [Bool.and_eq_true, decide_eq_true_eq] at h
      have a := kEs_ok is cc .v _ X W G h.2
      exact fin_md h0 (s_tup h.1 (kEs_len _ _ _ _ h.2).1 a dlen_ok)
    · cases h
  | .lst is, cc, md, e, X, W, G, h => by
    simp only [kE, Bool.and_eq_true] at h
    obtain ⟨h0, h⟩ := h
    split at h
    · simp only [Bool.and_eq_true, decide_eq_true_eq] at h
      have a := kEs_ok is cc .v _ X W G h.2
      exact fin_md h0 (s_lst h.1 (kEs_len _ _ _ _ h.2).1 a dlen_ok)
    · cases h
  | .dct [] [], cc, md, e, X, W, G, h => by
    simp only [kE, Bool.and_eq_true] at h
    obtain ⟨h0, h⟩ := h
    split at h
    · simp only [Bool.and_eq_true, List.isEmpty_iff] at h
      obtain ⟨rfl, rfl⟩ := h
      exact fin_md h0 s_dct0
    · cases h
  | .dct (_ :: _) _, cc, md, e, X, W, G, h => by simp [kE] at h
  | .dct [] (_ :: _), cc, md, e, X, W, G, h => by simp [kE] at h
  | .box i, cc, md, e, X, W, G, h => by
    simp only [kE, Bool.and_eq_true] at h
    exact fin_md h.1 (s_box (kE_ok i cc .v e X W G h.2))
  | .bin o a b, cc, md, e, X, W, G, h => by
    simp only [kE, Bool.and_eq_true] at h
    obtain ⟨h0, h⟩ := h
    split at h
    · simp only [Bool.and_eq_true, decide_eq_true_eq] at h
      obtain ⟨⟨rfl, h1⟩, h2⟩ := h
      exact fin_md h0 (s_bin (kE_ok a cc .b _ X W G h1) (kE_ok b cc .b _ X W G h2))
    · cases h
  | .neg a, cc, md, e, X, W, G, h => by
    simp only [kE, Bool.and_eq_true] at h
    obtain ⟨h0, h⟩ := h
    split at h
    · exact fin_md h0 (s_neg (kE_ok a cc .b _ X W G h))
    · cases h
  | .not a, cc, md, e, X, W, G, h => by
    simp only [kE] at h
    split at h
    · have q := kE_ok a cc _ _ X W G h
      cases md with
      | v => exact s_not q
      | b => exact (s_not q).B
      | t => exact ⟨t_not q.1, fun op es pos he => by cases he⟩
    · cases h
  | .cmp o a b, cc, md, e, X, W, G, h => by
    simp only [kE] at h
    split at h
    · split at h
      · simp only [Bool.and_eq_true, decide_eq_true_eq] at h
        obtain ⟨⟨⟨rfl, h1⟩, h2⟩, h3⟩ := h
        exact fin_cmp (fun _ _ _ q => by cases q) (s_cmp G.units (notSet_ok h1) (kE_ok a cc .b _ X W G h2) (kE_ok b cc .b _ X W G h3))
      · cases h
    · cases h
  | .chain o o' a b c, cc, md, e, X, W, G, h => by
    simp only [kE] at h
    split at h
    · split at h
      · simp only [Bool.and_eq_true, decide_eq_true_eq] at h
        obtain ⟨⟨⟨⟨rfl, h1⟩, h2⟩, h3⟩, h4⟩ := h
        exact fin_cmp (fun _ _ _ q => by cases q) (s_chain G.units (notSet_ok h1 _) (kE_ok a cc .b _ X W G h2) (kE_ok b cc .b _ X W G h3) (kE_ok c cc .b _ X W G h4))
      · cases h
    · cases h
  | .and a b, cc, md, e, X, W, G, h => by
    simp only [kE] at h
    split at h
    · split at h
      · simp only [Bool.and_eq_true] at h
        exact and_ok (kE_ok a cc _ _ X W G h.1) (one_and (kE_ok b cc _ _ X W G h.2))
      · simp only [Bool.and_eq_true] at h
        exact and_ok (kE_ok a cc _ _ X W G h.1) (kE_ok b cc _ _ X W G h.2)
      · cases h
    · cases h
  | .or a b, cc, md, e, X, W, G, h => by
    simp only [kE] at h
    split at h
    · split at h
      · simp only [Bool.and_eq_true] at h
        exact or_ok (kE_ok a cc _ _ X W G h.1) (one_or (kE_ok b cc _ _ X W G h.2))
      · simp only [Bool.and_eq_true] at h
        exact or_ok (kE_ok a cc _ _ X W G h.1) (kE_ok b cc _ _ X W G h.2)
      · cases h
    · cases h
  | .ite c a b, cc, md, e, X, W, G, h => by
    simp only [kE, Bool.and_eq_true] at h
    obtain ⟨h0, h⟩ := h
    split at h
    · simp only [Bool.and_eq_true] at h
      exact fin_md h0 (s_ite (kE_ok c cc .t _ X W G h.1.1).1 (kE_ok a cc .v _ X W G h.1.2) (kE_ok b cc .v _ X W G h.2))
    · cases h
  | .ix a i, cc, md, e, X, W, G, h => by
    simp only [kE, Bool.and_eq_true] at h
    obtain ⟨h0, h⟩ := h
    split at h
    · simp only [Bool.and_eq_true, Bool.not_eq_true'] at h
      exact fin_md h0 (s_ix G.units h.1.1 (kE_ok a cc .b _ X W G h.1.2) (kE_ok i cc .b _ X W G h.2))
    · cases h
  | .sl a lo hi, cc, md, e, X, W, G, h => by
    simp only [kE, Bool.and_eq_true] at h
    obtain ⟨h0, h⟩ := h
    split at h
    · simp only [Bool.and_eq_true] at h
      obtain ⟨⟨h1, h2⟩, h3⟩ := h
      have r1 := kEs_ok lo cc .b _ X W G h2
      have r2 := kEs_ok hi cc .b _ X W G h3
      exact fin_md h0 (s_sl (kE_ok a cc .b _ X W G h1) (o_ok h2 fun i e q1 q2 => r1.2 i e q1 (by rw [q2]; rfl)) (o_ok h3 fun i e q1 q2 => r2.2 i e q1 (by rw [q2]; rfl)))
    · cases h
  | .rev a, cc, md, e, X, W, G, h => by
    simp only [kE, Bool.and_eq_true] at h
    obtain ⟨h0, h⟩ := h
    split at h
    · simp only [Bool.and_eq_true, decide_eq_true_eq] at h
      obtain ⟨rfl, h1⟩ := h
      exact fin_md h0 (s_rev (kE_ok a cc .b _ X W G h1))
    · cases h
  | .fld a f, cc, md, e, X, W, G, h => by simp [kE] at h
  | .call f is, cc, md, e, X, W, G, h => by
    simp only [kE, Bool.and_eq_true] at h
    obtain ⟨h0, h⟩ := h
    split at h
    · simp only [Bool.and_eq_true, decide_eq_true_eq, Bool.not_eq_true'] at h
      obtain ⟨⟨⟨h1, h2⟩, h3⟩, h4⟩ := h
      obtain ⟨l1, l2⟩ := kEs_len _ _ _ _ h4
      exact fin_md h0 (call_ok G h1 h2 h3 l1 l2 (kEs_ok is cc .v _ X W G h4))
    · cases h
  | .mk c is, cc, md, e, X, W, G, h => by simp [kE] at h
  | .meth m o is, cc, md, e, X, W, G, h => by
    simp only [kE, Bool.and_eq_true] at h
    obtain ⟨h0, h⟩ := h
    split at h
    · simp only [Bool.and_eq_true, decide_eq_true_eq] at h
      obtain ⟨⟨⟨⟨⟨rfl, h1⟩, h2⟩, h3⟩, h4⟩, h5⟩ := h
      obtain ⟨l1, l2⟩ := kEs_len _ _ _ _ h5
      exact fin_md h0 (s_meth m h1 (l2 _ (by simp)) (pa_stars (X := X) _ fun e' he => l2 e' (List.mem_cons_of_mem _ he)) h2 h3 (kE_ok o cc .b _ X W G h4) (kEs_ok is cc .b _ X W G h5).1)
    · cases h
  | .fn f is, cc, md, e, X, W, G, h => by
    simp only [kE, Bool.and_eq_true] at h
    obtain ⟨h0, h⟩ := h
    split at h
    · simp only [Bool.and_eq_true, decide_eq_true_eq] at h
      obtain ⟨⟨rfl, h2⟩, h4⟩ := h
      obtain ⟨l1, l2⟩ := kEs_len _ _ _ _ h4
      obtain ⟨g1, g2⟩ := blt_ok G h2
      exact fin_md h0 (s_fn G.calm f g1 g2 (l2 _ (by simp)) (pa_stars (X := X) _ fun e' he => l2 e' (List.mem_cons_of_mem _ he)) (kEs_ok is cc .b _ X W G h4).1)
    · cases h
  | .isi i ts, cc, md, e, X, W, G, h => by
    simp only [kE, Bool.and_eq_true] at h
    obtain ⟨h0, h⟩ := h
    split at h
    · simp only [Bool.and_eq_true, decide_eq_true_eq, Bool.not_eq_true'] at h
      obtain ⟨⟨⟨⟨⟨rfl, h2⟩, h3⟩, h4⟩, h5⟩, h6⟩ := h
      obtain ⟨g1, g2⟩ := blt_ok G h2
      obtain ⟨g3, g4⟩ := blt_ok G h3
      split at h4
      · split at h4
        · rename_i t m hm
          simp only [Bool.and_eq_true, decide_eq_true_eq, Bool.not_eq_true'] at h4
          obtain ⟨⟨q1, q2⟩, q3⟩ := h4
          exact fin_md h0 (s_isi hm q1 (by simpa using q2) q3 g3 g4 g1 g2 h5 (kE_ok i cc .b _ X W G h6))
        · cases h4
      · cases h4
    · cases h
  | .comp elt tg k src [], cc, md, e, X, W, G, h => by
    simp only [kE, Bool.and_eq_true] at h
    obtain ⟨h0, h⟩ := h
    split at h
    · split at h
      · rename_i eelt scope pos gens etg eit ifs asy
        simp only [Bool.and_eq_true, decide_eq_true_eq, List.isEmpty_iff] at h
        obtain ⟨⟨⟨⟨⟨⟨rfl, rfl⟩, h2⟩, h3⟩, h4⟩, h5⟩, h6⟩ := h
        split at h6
        · rename_i es hes
          obtain ⟨l1, l2⟩ := kEs_len _ _ _ _ h6
          have ra := kEs_ok src cc .b es X W G h6
          have rb := comp_ok (xr := xr) (fc := yesZ) G h2 h3 h4 (ifs := []) (fun c => ⟨_, pts_nil, fun b g z σ H Q S k => k g H (.refl _ _) S⟩) (fun c => kE_ok elt (cc.inner scope) .v eelt _ _ (G.inner scope c) h5) hes l2 ra.1 (pos := pos) fun i e1 e2 => by
            subst e1 e2
            simp only [itArgs, List.length_singleton, if_true, Option.some.injEq] at hes
            subst hes
            exact ra.2 _ _ rfl rfl
          have ev : (evalE cf (.comp elt tg k src [])) = fun z => (evalEs cf src z).bind fun ds z => compK tg k yesZ (evalE cf elt) ds z := by funext z; simp only [evalE]
          exact fin_md h0 (by rw [ev]; exact rb)
        · cases h6
      · cases h
    · cases h
  | .comp elt tg k src (c :: cs), cc, md, e, X, W, G, h => by
    simp only [kE, Bool.and_eq_true] at h
    obtain ⟨h0, h⟩ := h
    split at h
    · split at h
      · rename_i eelt scope pos gens etg eit ifs asy
        simp only [Bool.and_eq_true, decide_eq_true_eq] at h
        obtain ⟨⟨⟨⟨⟨⟨rfl, h2⟩, h3⟩, h4⟩, h5⟩, h7⟩, h6⟩ := h
        split at h7
        · rename_i ec
          split at h6
          · rename_i es hes
            obtain ⟨l1, l2⟩ := kEs_len _ _ _ _ h6
            have ra := kEs_ok src cc .b es X W G h6
            have rb := comp_ok (xr := xr) (fc := evalE cf c) G h2 h3 h4 (ifs := [ec]) (fun bc => by
              obtain ⟨t, p, q⟩ := (kE_ok c (cc.inner scope) .t ec _ _ (G.inner scope bc) h7).1
              exact ⟨_, pts_one p, q⟩) (fun bc => kE_ok elt (cc.inner scope) .v eelt _ _ (G.inner scope bc) h5) hes l2 ra.1 (pos := pos) fun i e1 e2 => by
              subst e1 e2
              simp only [itArgs, List.length_singleton, if_true, Option.some.injEq] at hes
              subst hes
              exact ra.2 _ _ rfl rfl
            have ev : (evalE cf (.comp elt tg k src (c :: cs))) = fun z => (evalEs cf src z).bind fun ds z => compK tg k (evalE cf c) (evalE cf elt) ds z := by funext z; simp only [evalE]
            exact fin_md h0 (by rw [ev]; exact rb)
          · cases h6
        · cases h7
      · cases h
    · cases h
theorem kEs_ok : ∀ (is : List E) (cc : CC) (md : Md) (es : List Expr) (X : Cx) (W : WX), Good w X W cf cc lv → kEs cc md is es = true → SndL w xr X W cf es is md
  | [], cc, md, [], X, W, G, h => by cases md with
    | v => exact af_nil
    | b => exact ⟨a_nil, fun i' e' q1 q2 => by cases q1⟩
    | t => trivial
  | [], cc, md, e :: es, X, W, G, h => by simp [kEs] at h
  | i :: is, cc, md, [], X, W, G, h => by simp [kEs] at h
  | i :: is, cc, md, e :: es, X, W, G, h => by
    simp only [kEs, Bool.and_eq_true, Bool.not_eq_true'] at h
    obtain ⟨⟨h1, h2⟩, h3⟩ := h
    have a := kE_ok i cc md e X W G h2
    have b := kEs_ok is cc md es X W G h3
    cases md with
    | v => exact af_cons h1 a.F b
    | b => exact ⟨a_cons h1 a b.1, fun i' e' q1 q2 => by cases q1; cases q2; exact a⟩
    | t => trivial
end
end
end Vi

namespace Vi
open PySem L2

def isLC : Expr → Bool
  | .ListComp .. => true
  | .SetComp .. => true
  | .DictComp .. => true
  | _ => false
def isTupE : Expr → Bool
  | .Tuple .. => true
  | .List .. => true
  | _ => false
/-- the list is made with the value on top of the name's -/
def lcSwap (cc : CC) (x : Str) (p : Pos) : Expr → Bool
  | .ListComp _ _ sc pos => decide (cc.sc.names.lookup x = some .local) && (p.line == pos.line) && !(sc.names.any fun (n, k) => n == x && (k == .local || k == .cell))
  | _ => false
def isComp : E → Bool
  | .comp .. => true
  | _ => false
def kAsg (cc : CC) (i : Nat) (x : Str) : Bool := decide (cc.N[i]? = some x) && (decide (cc.sc.names.lookup x = some .local) || decide (cc.sc.names.lookup x = some .cell))
def mutName (m : Str) : Bool := decide (m = "append") || decide (m = "extend")
mutual
def kS : CC → S → Stmt → Bool
  | cc, .set (.nm i) e, st => match st with
    | .Assign [.Name x p] ev pos => kAsg cc i x && kE cc .v e ev && (!isLC ev || (lcSwap cc x p ev && isComp e))
    | _ => false
  | cc, .set (.tp ts) e, st => match st with
    | .Assign [.Tuple tes k p] ev pos => kG cc (.tp ts) (.Tuple tes k p) && kE cc .v e ev && !isTupE ev
    | _ => false
  | cc, .setIx o i e, st => false
  | cc, .setF o f e, st => false
  | cc, .setV n i e, st => match st with
    | .Assign [.Subscript (.Name x p) ei sp] ev pos => cc.var n x && !Expr.slice ei && kE cc .v e ev && kE cc .v i ei
    | _ => false
  | cc, .mut m n is, st => match st with
    | .Expr (.Call (.Attribute (.Name x p) m' ap) (e0 :: es) [] cp) pos => decide (m = m') && mutName m && cc.var n x && decide ((e0 :: es).length < 30) && (ap.endLine == cp.line) && kEs cc .v is (e0 :: es)
    | _ => false
  | cc, .expr e, st => match st with
    | .Expr ev pos => !isLC ev && kE cc .v e ev
    | _ => false
  | cc, .ifS c a b, st => match st with
    | .If ec ea eb pos => kE cc .t c ec && kSs cc a ea && kSs cc b eb
    | _ => false
  | cc, .whl c a, st => match st with
    | .While ec ea [] pos => kE cc .t c ec && kSs cc a ea
    | _ => false
  | cc, .for t k src a, st => match st with
    | .For etg eit ea [] pos => notSet eit && kG cc t etg && kSs cc a ea && (match itArgs cc k src.length etg eit with
      | some es => kEs cc .v src es
      | none => false)
    | _ => false
  | cc, .ret e, st => match st with
    | .Return (some ev) pos => match e with
      | .v i => match ev with
        | .Name x p => cc.var i x
        | _ => false
      | e => kE cc .v e ev
    | _ => false
  | cc, .retN, st => match st with
    | .Return none pos => true
    | _ => false
  | cc, .cont, st => match st with
    | .Continue pos => true
    | _ => false
  | cc, .pass, st => match st with
    | .Pass pos => true
    | .Expr (.Constant (.str x) j p) pos => true
    | _ => false
  | cc, .raise c es, st => false
  | cc, .tryE a c x h, st => false
def kSs : CC → List S → List Stmt → Bool
  | _, [], [] => true
  | cc, i :: is, s :: ss => kS cc i s && kSs cc is ss
  | _, _, _ => false
end

structure GoodS (w : Wd) (X : Cx) (W : WX) (cf : CF) (cc : CC) (lv : Nat) : Prop where
  G : Good w X W cf cc lv
  top : ∀ x, X.fn x = true
  kind : cc.sc.kind = .function
  po : PassesOwn (model X.prog X.w) X.A X.env X.xe
section
variable {w : Wd} {xr : Nat → D → V → Prop} {X : Cx} {W : WX} {cf : CF} {cc : CC} {lv : Nat} {e ev : Expr} {i : E}
theorem noLC_sw (h : isLC ev = false) (t : Option Expr) (l : Nat) (env : Env) : swapsWith ev t l env = pure false := by
  cases ev <;> first | rfl | (simp [isLC] at h)
theorem sole_tup {es : List Expr} {k : Nat} {p : Pos} (l : Nat) (env : Env) : swapsWithSole [.Tuple es k p] ev l env = pure false := by
  cases ev <;> rfl
theorem sole_sub {a b : Expr} {p : Pos} (l : Nat) (env : Env) : swapsWithSole [.Subscript a b p] ev l env = pure false := by
  cases ev <;> rfl
theorem stores_sub {a b : Expr} {p : Pos} (env : Env) : swappedStores [.Subscript a b p] ev env = pure none := by
  cases ev <;> rfl
theorem stores_tup {es : List Expr} {k : Nat} {p : Pos} (h : isTupE ev = false) (env : Env) : swappedStores [.Tuple es k p] ev env = pure none := by
  cases ev <;> first | rfl | (simp [isTupE] at h)
theorem lc_sw {x : Str} {p : Pos} (hsc : X.env.scope = cc.sc) (hk : cc.sc.kind = .function) (h : lcSwap cc x p ev = true) (l : Nat) : swapsWith ev (some (.Name x p)) l X.env = pure true := by
  unfold lcSwap at h
  split at h
  · rename_i elt gens sc pos
    simp only [Bool.and_eq_true, decide_eq_true_eq] at h
    obtain ⟨⟨h1, h2⟩, h3⟩ := h
    have hb : X.env.blockKind = .function := by
      unfold Env.blockKind
      rw [hsc, hk]; rfl
    show (pure (X.env.blockKind == .function && X.env.kindOf x == some .local && p.line == pos.line && !(sc.names.any fun (n, k) => n == x && (k == .local || k == .cell))) : Sem Bool) = pure true
    rw [hb]
    unfold Env.kindOf
    rw [hsc, h1, h2, h3]
    rfl
  · cases h
theorem sub_asg {o ei : Expr} {sp : Pos} (h : Expr.slice ei = false) (env : Env) : ∀ v, assign (.Subscript o ei sp) env v = (do
      let ov ← holding [v] (eval o env)
      let iv ← holding [v, ov] (eval ei env)
      standAt sp
      holding [v, ov, iv] (setItem ov iv v)
      release [v, ov, iv] []) := by
  intro v
  cases ei <;> first | rfl | (simp [Expr.slice] at h)
theorem asg_ok (G : GoodS w X W cf cc lv) {n : Nat} {x : Str} (h : kAsg cc n x = true) : X.N.length = w.m ∧ X.N.Nodup ∧ X.N[n]? = some x ∧ L2.Loc X.env.scope x ∧ (X.fn x = true ∨ X.env.scope.names.lookup x = some .local) := by
  unfold kAsg at h
  simp only [Bool.and_eq_true, Bool.or_eq_true, decide_eq_true_eq] at h
  refine ⟨by rw [G.G.hN]; exact G.G.m, by rw [G.G.hN]; exact G.G.nd, by rw [G.G.hN]; exact h.1, ?_, .inl (G.top x)⟩
  unfold L2.Loc
  rw [G.G.sc]
  exact h.2
theorem mut_ok {m : Str} (h : mutName m = true) : ∃ id r, LMut X m id r := by
  unfold mutName at h
  simp only [Bool.or_eq_true, decide_eq_true_eq] at h
  rcases h with rfl | rfl
  · exact ⟨_, _, lm_append⟩
  · exact ⟨_, _, lm_extend⟩
theorem setLc_ok (G : GoodS w X W cf cc lv) {n : Nat} {x : Str} {p : Pos} {ie : E} {pos : Pos} (h1 : kAsg cc n x = true) (h2 : kE cc .v ie ev = true) (h3 : lcSwap cc x p ev = true) (h4 : isComp ie = true) :
    SndS w xr X W (.Assign [.Name x p] ev pos) (execS cf (.set (.nm n) ie)) := by
  obtain ⟨a1, a2, a3, a4, a5⟩ := asg_ok G h1
  have hsw := lc_sw (X := X) G.G.sc G.kind h3 pos.line
  unfold isComp at h4
  split at h4
  · rename_i elt tg k src cs
    unfold lcSwap at h3
    split at h3
    · rename_i eelt gens scope lpos
      simp only [Bool.and_eq_true, decide_eq_true_eq] at h3
      have hxl : X.env.scope.names.lookup x = some .local := by rw [G.G.sc]; exact h3.1.1
      have fin : ∀ {etg eit : Expr} {ifs : List Expr} {es : List Expr} {fc : Z → R Z (D × Bool)}, gens = [⟨etg, eit, ifs, 0⟩] → notSet eit = true → blkB cc.N cc.sc scope (ownOf cc.N tg.slots) = true → kG (cc.inner scope) tg etg = true →
          (∀ c, SndTs w xr (blkOf X scope c) W0 ifs fc) → kE (cc.inner scope) .v elt eelt = true → itArgs cc k src.length etg eit = some es → kEs cc .b src es = true →
          ((evalE cf (.comp elt tg k src cs)) = fun z => (evalEs cf src z).bind fun ds z => compK tg k fc (evalE cf elt) ds z) → SndS w xr X W (.Assign [.Name x p] (.ListComp eelt gens scope lpos) pos) (execS cf (.set (.nm n) (.comp elt tg k src cs))) := by
        intro etg eit ifs es fc eg q1 q2 q3 q4 q5 q6 q7 q8
        subst eg
        have ra := kEs_ok (xr := xr) src cc .b es X W G.G q7
        obtain ⟨l1, l2⟩ := kEs_len _ _ _ _ q7
        have si : SndI w xr X W etg eit k (evalEs cf src) := by
          by_cases hk : k = .val
          · subst hk
            simp only [itArgs] at q6
            split at q6
            · rename_i hl
              obtain ⟨i, rfl⟩ := List.length_eq_one_iff.mp hl
              cases q6
              exact i_val (ra.2 _ _ rfl rfl)
            · cases q6
          · obtain ⟨r, r1, r2⟩ := it_call (xr := xr) G.G hk q6 l2
            exact i_call ra.1 r1 r2
        refine s_setLc a1 G.G.calm a2 a3 hxl hsw (blk_ok (by rw [G.G.hN, G.G.sc]; exact q2)) (own_snd _ _) (notSet_it q1 _) ?_
        rw [q8]
        exact lc_ok si (fun c => kG_ok (G.G.inner scope c) tg etg q3) q4 fun c => SndE.F (kE_ok elt (cc.inner scope) .v eelt _ _ (G.G.inner scope c) q5)
      cases cs with
      | nil =>
        simp only [kE, Bool.and_eq_true] at h2
        obtain ⟨h0, h⟩ := h2
        split at h
        · rename_i etg eit ifs asy
          simp only [Bool.and_eq_true, decide_eq_true_eq, List.isEmpty_iff] at h
          obtain ⟨⟨⟨⟨⟨⟨rfl, rfl⟩, h2⟩, h3⟩, h4⟩, h5⟩, h6⟩ := h
          split at h6
          · rename_i es hes
            exact fin (fc := yesZ) rfl h2 h3 h4 (fun c => ⟨_, pts_nil, fun b g z σ H Q S k => k g H (.refl _ _) S⟩) h5 hes h6 (by funext z; simp only [evalE])
          · cases h6
        · cases h
      | cons c cs =>
        simp only [kE, Bool.and_eq_true] at h2
        obtain ⟨h0, h⟩ := h2
        split at h
        · rename_i etg eit ifs asy
          simp only [Bool.and_eq_true, decide_eq_true_eq] at h
          obtain ⟨⟨⟨⟨⟨⟨rfl, h2⟩, h3⟩, h4⟩, h5⟩, h7⟩, h6⟩ := h
          split at h7
          · rename_i ec
            split at h6
            · rename_i es hes
              exact fin (fc := evalE cf c) rfl h2 h3 h4 (fun bc => by
                obtain ⟨t, p, q⟩ := (kE_ok (xr := xr) c (cc.inner scope) .t ec _ _ (G.G.inner scope bc) h7).1
                exact ⟨_, pts_one p, q⟩) h5 hes h6 (by funext z; simp only [evalE])
            · cases h6
          · cases h7
        · cases h
    · cases h3
  · cases h4
mutual
theorem kS_ok (G : GoodS w X W cf cc lv) : ∀ (i : S) (st : Stmt), kS cc i st = true → SndS w xr X W st (execS cf i)
  | .set (.nm i) e, st, h => by
    simp only [kS] at h
    split at h
    · simp only [Bool.and_eq_true, Bool.or_eq_true, Bool.not_eq_true'] at h
      obtain ⟨⟨h1, h2⟩, h3⟩ := h
      rcases h3 with h3 | ⟨h3, h4⟩
      · obtain ⟨a1, a2, a3, a4, a5⟩ := asg_ok G h1
        exact s_set a1 a2 a3 a4 a5 (noLC_sw h3 _ _ _) (kE_ok e cc .v _ X W G.G h2)
      · exact setLc_ok G h1 h2 h3 h4
    · cases h
  | .set (.tp ts) e, st, h => by
    simp only [kS] at h
    split at h
    · simp only [Bool.and_eq_true, Bool.not_eq_true'] at h
      obtain ⟨⟨h1, h2⟩, h3⟩ := h
      exact s_setT (kG_ok G.G _ _ h1) (sole_tup _ _) (stores_tup h3 _) (kE_ok e cc .v _ X W G.G h2)
    · cases h
  | .setIx o i e, st, h => by simp [kS] at h
  | .setF o f e, st, h => by simp [kS] at h
  | .setV n i e, st, h => by
    simp only [kS] at h
    split at h
    · simp only [Bool.and_eq_true, Bool.not_eq_true'] at h
      obtain ⟨⟨⟨h1, h2⟩, h3⟩, h4⟩ := h
      obtain ⟨a, b, c, d⟩ := var_ok G.G h1
      exact s_setV a b c d (sub_asg h2 _) (sole_sub _ _) (stores_sub _) (kE_ok e cc .v _ X W G.G h3) (kE_ok i cc .v _ X W G.G h4)
    · cases h
  | .mut m n is, st, h => by
    simp only [kS] at h
    split at h
    · simp only [Bool.and_eq_true, decide_eq_true_eq] at h
      obtain ⟨⟨⟨⟨⟨rfl, h1⟩, h2⟩, h3⟩, h4⟩, h5⟩ := h
      obtain ⟨a, b, c, d⟩ := var_ok G.G h2
      obtain ⟨id, r, L⟩ := mut_ok (X := X) h1
      obtain ⟨l1, l2⟩ := kEs_len _ _ _ _ h5
      exact s_mut L a b c d (l2 _ (by simp)) (pa_stars (X := X) _ fun e' he => l2 e' (List.mem_cons_of_mem _ he)) h3 h4 (noLC_sw rfl _ _ _) (kEs_ok is cc .v _ X W G.G h5)
    · cases h
  | .expr e, st, h => by
    simp only [kS] at h
    split at h
    · simp only [Bool.and_eq_true, Bool.not_eq_true'] at h
      exact s_expr (noLC_sw h.1 _ _ _) (kE_ok e cc .v _ X W G.G h.2)
    · cases h
  | .ifS c a b, st, h => by
    simp only [kS] at h
    split at h
    · simp only [Bool.and_eq_true] at h
      exact s_if (kE_ok c cc .t _ X W G.G h.1.1).1 (kSs_ok G a _ h.1.2) (kSs_ok G b _ h.2)
    · cases h
  | .whl c a, st, h => by
    simp only [kS] at h
    split at h
    · simp only [Bool.and_eq_true] at h
      exact s_whl G.po (kE_ok c cc .t _ X W G.G h.1).1 (kSs_ok G a _ h.2)
    · cases h
  | .for t k src a, st, h => by
    simp only [kS] at h
    split at h
    · simp only [Bool.and_eq_true] at h
      rename_i etg eit ea pos
      obtain ⟨⟨⟨h1, h2⟩, h3⟩, h4⟩ := h
      split at h4
      · rename_i es hes
        have ra := kEs_ok (xr := xr) src cc .v es X W G.G h4
        obtain ⟨l1, l2⟩ := kEs_len _ _ _ _ h4
        have si : SndIF w xr X W etg eit k (evalEs cf src) := by
          by_cases hk : k = .val
          · subst hk
            simp only [itArgs] at hes
            split at hes
            · rename_i hl
              obtain ⟨i, rfl⟩ := List.length_eq_one_iff.mp hl
              cases hes
              simp only [kEs, Bool.and_eq_true] at h4
              exact if_val (SndE.F (kE_ok i cc .v _ X W G.G h4.1.2))
            · cases hes
          · obtain ⟨r, r1, r2⟩ := it_call (xr := xr) G.G hk hes l2
            exact if_call ra r1 r2
        exact s_for G.po G.G.calm (notSet_it h1 _) si (kG_ok G.G _ _ h2) (kSs_ok G a _ h3)
      · cases h4
    · cases h
  | .ret e, st, h => by
    simp only [kS] at h
    split at h
    · split at h
      · split at h
        · obtain ⟨a, b, c, d⟩ := var_ok G.G h
          exact s_retV a b c d
        · cases h
      · rename_i hn
        exact s_ret hn (kE_ok e cc .v _ X W G.G h)
    · cases h
  | .retN, st, h => by
    simp only [kS] at h
    split at h
    · exact s_retN
    · cases h
  | .cont, st, h => by
    simp only [kS] at h
    split at h
    · exact s_cont
    · cases h
  | .pass, st, h => by
    simp only [kS] at h
    split at h
    · exact s_pass
    · exact s_doc
    · cases h
  | .raise c es, st, h => by simp [kS] at h
  | .tryE a c x b, st, h => by simp [kS] at h
theorem kSs_ok (G : GoodS w X W cf cc lv) : ∀ (is : List S) (ss : List Stmt), kSs cc is ss = true → SndSs w xr X W ss (execB cf is)
  | [], [], h => ss_nil
  | [], s :: ss, h => by simp [kSs] at h
  | i :: is, [], h => by simp [kSs] at h
  | i :: is, s :: ss, h => by
    simp only [kSs, Bool.and_eq_true] at h
    exact ss_cons (kS_ok G i s h.1) (kSs_ok G is ss h.2)
end
end
end Vi

namespace Vi
open PySem L2

/-! ### the defs of a program -/
structure DI where
  x : Str
  st : Stmt
  N : List Str
  ps : List Str
  d : Df
def scB (N ps : List Str) (sc : Scope) : Bool :=
  decide (sc.kind = .function) && decide (sc.isCoroutine = false) && decide (sc.isGenerator = false) && decide N.Nodup && decide (N.take ps.length = ps) &&
  decide (∀ x ∈ ps, sc.names.lookup x = some .local ∨ sc.names.lookup x = some .cell) && decide (∀ y ∈ sc.names, y.2 ≠ .free)
theorem sc_ok {N ps : List Str} {sc : Scope} (h : scB N ps sc = true) : FnScope N ps sc := by
  unfold scB at h
  simp only [Bool.and_eq_true, decide_eq_true_eq] at h
  obtain ⟨⟨⟨⟨⟨⟨h1, h2⟩, h3⟩, h4⟩, h5⟩, h6⟩, h7⟩ := h
  exact ⟨h1, h2, h3, h4, h5, h6, h7⟩
def DI.cc (di : DI) (fns : List (Str × Nat × Nat)) (con : List (Str × D)) (free : List Str) : CC := ⟨di.N, defScope di.st, true, fns, con, free⟩
def DI.ok (di : DI) (fns : List (Str × Nat × Nat)) (con : List (Str × D)) (free : List Str) : Bool :=
  scB di.N di.ps (defScope di.st) && decide (di.N.length = di.d.m) && decide (di.ps.length = di.d.n) && kSs (di.cc fns con free) di.d.body (defBody di.st)
def fnsB (ds : List DI) (fns : List (Str × Nat × Nat)) : Bool := fns.all fun p => match ds[p.2.1]? with
  | some di => decide (di.x = p.1) && decide (di.d.n = p.2.2)
  | none => false
theorem lookup_mem {α : Type} {x : Str} {v : α} : ∀ {l : List (Str × α)}, l.lookup x = some v → (x, v) ∈ l
  | [], h => by cases h
  | (y, u) :: l, h => by
    rw [List.lookup_cons] at h
    split at h
    · rename_i q
      cases h
      rw [eq_of_beq q]
      exact List.mem_cons_self
    · exact List.mem_cons_of_mem _ (lookup_mem h)
/-- what the top has made of the defs -/
structure Made (K : PySem.W.Frag) (mg : Str → Option Value) (ds : List DI) (con : List (Str × D)) (free : List Str) (fa : Nat → Addr) (fd : Nat → FuncData) : Prop where
  fn : ∀ i di, ds[i]? = some di → Fun K di.x di.x di.st (fa i) (fd i) ∧ Binds K (fd i) di.ps [] ∧ mg di.x = some (.ref (fa i)) ∧ PySem.W.keepIn K (.ref (fa i)) = true
  free : ∀ x ∈ free, mg x = none
  con : ∀ x d, con.lookup x = some d → ∃ u v, mg x = some u ∧ RelV v u ∧ ∀ F al, Rp F al d v
section
variable {P : Program} {w : World} {K : PySem.W.Frag} {mg : Str → Option Value} {base : Heap} {cad : Nat → Addr} {ds : List DI} {fns : List (Str × Nat × Nat)} {con : List (Str × D)} {free : List Str} {fa : Nat → Addr} {fd : Nat → FuncData}
theorem sp_len {n : Nat} {cl : List D → Os → R Os (D × Bool)} {vs : List V} {H : Hp} {Q : VK} {E : XK} (h : spR cad n cl vs H Q E) : vs.length = n := by
  obtain ⟨g, os, xs, I, hn, _⟩ := h
  rw [Rps.length I.args, hn]
theorem env_get {m : Nat} {xs : List D} {i : Nat} {e : Ent} (h : (envOf m xs)[i]? = some e) : (∃ d, xs[i]? = some d ∧ e = .val d false) ∨ e = .no := by
  unfold envOf at h
  by_cases hi : i < xs.length
  · rw [List.getElem?_append_left (by simpa using hi), List.getElem?_map] at h
    obtain ⟨d, h1, h2⟩ := Option.map_eq_some_iff.mp h
    exact .inl ⟨d, h1, h2.symm⟩
  · rw [List.getElem?_append_right (by simpa using hi), List.getElem?_replicate] at h
    split at h
    · exact .inr (Option.some.inj h).symm
    · cases h
theorem sim_start {xr : Nat → D → V → Prop} {N : List Str} {g : Gh} {H : Hp} {os : Os} {xs : List D} {vs : List V} (I : Inp cad g H os xs vs) (hl : xs.length ≤ N.length) : Sim ⟨cad, N.length⟩ xr ⟨g.F, g.al, H, []⟩ g ⟨envOf N.length xs, os⟩ (L2.start N vs) H := by
  have hv := Rps.length I.args
  have l1 : (L2.start N vs).length = N.length := by
    unfold L2.start
    rw [List.length_append, List.length_map, List.length_replicate]; omega
  have l2 : (envOf N.length xs).length = N.length := by
    unfold envOf
    rw [List.length_append, List.length_map, List.length_replicate]; omega
  refine ⟨I.sub, fun a h => .inl h, fun a o h _ => h, .refl _, .refl _, fun a h => .inl h, I.alF, I.nd, I.box, by rw [l1]; exact l2, l1, fun i e he => ?_, fun i j e e' hij h1 h2 o1 o2 => ?_, fun a ha => by cases ha⟩
  · rcases env_get he with ⟨d, h1, rfl⟩ | rfl
    · obtain ⟨v, h2, h3⟩ := Rps.get I.args h1
      refine ⟨v, ?_, ?_⟩
      · unfold L2.start
        have hi : i < vs.length := (List.getElem?_eq_some_iff.mp h2).1
        rw [List.getElem?_append_left (by simpa using hi), List.getElem?_map, h2]; rfl
      · unfold ValRel
        rw [if_neg (by simp)]
        exact h3
    · trivial
  · rcases env_get h1 with ⟨d, q1, rfl⟩ | rfl
    · simp [Ent.owns] at o1
    · cases o1
theorem Sim.outC {xr : Nat → D → V → Prop} {m : Nat} {g g' : Gh} {H H' : Hp} {z : Z} {σ : St} (S : Sim ⟨cad, m⟩ xr ⟨g.F, g.al, H, []⟩ g' z σ H') : Out cad g H g' H' z.os :=
  ⟨⟨S.pF, S.pre, S.alnew, S.kept⟩, S.new, S.sub, S.alF, S.nd, S.box⟩
theorem ValRel.ret {m : Nat} {g g' : Gh} {H H' : Hp} {d : D} {fr : Bool} {v : V} (h : ValRel ⟨cad, m⟩ ⟨g.F, g.al, H, []⟩ g' H' d fr v) : Ret g' H H' d fr v := by
  unfold ValRel at h
  unfold Ret
  split
  · rename_i hc
    rw [if_pos hc] at h
    obtain ⟨a, e, o⟩ := h
    exact ⟨a, e, o.nF, o.nB, o.nH, o.cl⟩
  · rename_i hc
    rw [if_neg hc] at h
    exact h
theorem defs_ok (T : Tb) (hT : T.defs = ds.map (·.d)) (M : Made K mg ds con free fa fd) (hfns : fnsB ds fns = true) (hds : ds.all (fun di => di.ok fns con free) = true) :
    ∀ k i di, ds[i]? = some di → FnOk P w K mg base (L2.CX P w) k (fa i) (fd i) di.ps (spR cad di.d.n (call T k i)) := by
  have hall := List.all_eq_true.mp hds
  have plen : ∀ {i : Nat} {di : DI}, ds[i]? = some di → di.ps.length = di.d.n := fun {i di} h => by
    have := hall _ (List.mem_of_getElem? h)
    unfold DI.ok at this
    simp only [Bool.and_eq_true, decide_eq_true_eq] at this
    exact this.1.2
  intro k
  induction k with
  | zero =>
    intro i di hi
    refine ⟨fun vs H Q E h => (sp_len h).trans (plen hi).symm, fun A outer s H args us vs Q E _ _ _ _ h => ?_⟩
    obtain ⟨g, os, xs, _, _, h⟩ := h
    exact h.elim
  | succ k ih =>
    intro i di hi
    have h0 := hall _ (List.mem_of_getElem? hi)
    unfold DI.ok at h0
    simp only [Bool.and_eq_true, decide_eq_true_eq] at h0
    obtain ⟨⟨⟨h1, h2⟩, h3⟩, h4⟩ := h0
    have SC := sc_ok h1
    obtain ⟨F, B, m, kp⟩ := M.fn i di hi
    refine F.okX SC (fun vs H Q E h => (sp_len h).trans h3.symm) fun cdv A outer s H vs Q E hr h => ?_
    obtain ⟨g, os, xs, I, hn, pc⟩ := h
    have hle : xs.length ≤ di.N.length := by
      have := congrArg List.length SC.pre
      rw [List.length_take] at this
      omega
    have G : GoodS ⟨cad, di.N.length⟩ (cxOf (L2.CX P w) P w K mg base di.N di.x (defScope di.st) (fa i) cdv A outer s H E) (fun cls d _ H => E cls d H) (T.cf k) (di.cc fns con free) k := by
      refine ⟨⟨rfl, SC.nd, rfl, rfl, rfl, fun _ _ => rfl, fun x j n hx => ?_, hr, M.free, M.con, takes_of rfl rfl rfl rfl⟩, fun _ => rfl, SC.kind, passes_of rfl⟩
      have hx := List.all_eq_true.mp hfns _ (lookup_mem hx)
      simp only at hx
      split at hx
      · rename_i dj hj
        simp only [Bool.and_eq_true, decide_eq_true_eq] at hx
        obtain ⟨e1, e2⟩ := hx
        subst e1 e2
        obtain ⟨F', B', m', kp'⟩ := M.fn j dj hj
        exact ⟨fa j, fd j, dj.ps, ih j dj hj, m', kp', B'⟩
      · cases hx
    obtain ⟨t, pt, qt⟩ := kSs_ok (xr := fun _ _ _ => False) G _ _ h4
    refine ⟨t, pt, qt ⟨g.F, g.al, H, []⟩ g ⟨envOf di.N.length xs, os⟩ (L2.start di.N vs) H _ (sim_start I hle) ?_⟩
    have ec : call T (k + 1) i xs os = outF (execB (T.cf k) di.d.body ⟨envOf di.N.length xs, os⟩) := by
      have : T.defs[i]? = some di.d := by rw [hT, List.getElem?_map, hi]; rfl
      simp only [call, this, hn, if_true, h2]
      rfl
    rw [ec] at pc
    cases r : execB (T.cf k) di.d.body ⟨envOf di.N.length xs, os⟩ with
    | stuck => rw [r] at pc; exact pc
    | exc c x z' =>
      rw [r] at pc
      exact fun g' σ' H' cls dd l S x => pc g' H' cls dd S.outC x
    | ok f z' =>
      rw [r] at pc
      cases f with
      | next => exact fun g' σ' H' l S => pc g' H' .non S.outC (by unfold Ret; rw [if_neg (by simp)]; simp [Rp])
      | cont => exact pc.elim
      | ret d fr => exact fun g' σ' H' v l S vr => pc g' H' v S.outC vr.ret
end
end Vi

namespace Vi
open PySem L2

/-- nothing written by the top is a list -/
def noLists (K : PySem.W.Frag) : Bool := K.all fun p => match p.2.cls with
  | .type n => decide (n ≠ "list")
  | _ => true
theorem noLists_ok {K : PySem.W.Frag} (h : noLists K = true) {a : Addr} {o : Obj} (e : K.lookup a = some o) : o.cls ≠ .type "list" := by
  induction K with
  | nil => cases e
  | cons p r ih =>
    unfold noLists at h
    simp only [List.all_cons, Bool.and_eq_true] at h
    rw [List.lookup_cons] at e
    split at e
    · cases e
      intro q
      have h1 := h.1
      rw [q] at h1
      simp at h1
    · exact ih h.2 e
def spLaw (K : PySem.W.Frag) : Sp := fun vs H Q _ => ∃ (a : Addr) (ns : List Int), vs = [.ref a] ∧ SqL K H a (ns.map V.int) ∧ ns.length ≤ 63 ∧ (∀ z ∈ ns, Builtin.Int.intBits z ≤ 1048576) ∧ ∀ H', Q (.bl true) H'
theorem rps_ints {F : Hp} {al : List Addr} : ∀ ns : List Int, Rps F al (ns.map D.int) (ns.map V.int)
  | [] => Rps.nil
  | n :: ns => Rps.cons (by simp [Rp]) (rps_ints ns)
def okTrue : R Os (D × Bool) → Prop
  | .ok a _ => a.1 = .bl true
  | _ => False
theorem law_fn {P : Program} {w : World} {K : PySem.W.Frag} {mg : Str → Option Value} {base : Heap} {cad : Nat → Addr} {k i : Nat} {f : Addr} {fd : FuncData} {ps : List Str} {T : Tb} (nl : noLists K = true) (F : FnOk P w K mg base (L2.CX P w) k f fd ps (spR cad 1 (call T k i)))
    (law : ∀ ns : List Int, ns.length ≤ 63 → (∀ z ∈ ns, Builtin.Int.intBits z ≤ 1048576) → okTrue (call T k i [.lst (ns.map D.int)] [])) : FnOk P w K mg base (L2.CX P w) k f fd ps (spLaw K) := by
  refine F.imp fun vs H Q E h => ?_
  obtain ⟨a, ns, rfl, hS, hl, hb, k⟩ := h
  have hr : Rd H a (.lst (ns.map V.int)) := by
    rcases hS with h | ⟨o, its, n, e, hc, _⟩
    · exact h
    · exact absurd hc (noLists_ok nl e)
  refine ⟨⟨H, []⟩, [], [.lst (ns.map D.int)], ⟨.refl _, (fun a h => by cases h), List.nodup_nil, .nil, Rps.cons ?_ Rps.nil⟩, rfl, ?_⟩
  · simp only [Rp]
    exact ⟨a, _, rfl, hr, rps_ints ns⟩
  · have := law ns hl hb
    unfold okTrue at this
    split at this
    · rename_i x os e
      rw [e]
      intro g' H' v o r
      unfold Ret at r
      rw [this] at r
      rw [if_neg (by simp [D.cell])] at r
      simp only [Rp] at r
      rw [r]
      exact k H'
    · exact this.elim
end Vi

namespace Vi
open PySem L2
noncomputable section
open Classical

/-! ### the plain side: how the small language is run by simp -/
theorem ev_ofT {z : Z} {a : D × Bool} : ofT z (some a) = .ok a z := rfl
theorem ev_ofD {z : Z} {a : D} : ofD z (some a) = .ok (a, false) z := rfl
theorem ev_ofB {z : Z} {a : Bool} : ofB z (some a) = .ok (.bl a, false) z := rfl
theorem bin_add {os : Os} {i j : Int} : binD .add os (.int i) (.int j) = some (.int (i + j), false) := rfl
theorem bin_sub {os : Os} {i j : Int} : binD .sub os (.int i) (.int j) = some (.int (i - j), false) := rfl
theorem bin_mul {os : Os} {i j : Int} (h : mulOk i j = true) : binD .mul os (.int i) (.int j) = some (.int (i * j), false) := by simp [binD, h]
theorem bin_mod {os : Os} {i j : Int} (h : 0 < j) : binD .mod os (.int i) (.int j) = some (.int (i % j), false) := by simp [binD, h]
theorem bin_fdiv {os : Os} {i j : Int} (h : 0 < j) (h' : j.natAbs.log2 < 9000) : binD .fdiv os (.int i) (.int j) = some (.int (i / j), false) := by simp [binD, h, h']
theorem log_lt {i : Int} {n : Nat} (h : i.natAbs < 2 ^ n) (hn : 0 < n) : i.natAbs.log2 < n := by
  by_cases h0 : i.natAbs = 0
  · rw [h0]; simpa using hn
  · exact (Nat.log2_lt h0).mpr h
theorem bin_fdivS {os : Os} {i j : Int} (h : 0 < j) (h' : j < 1267650600228229401496703205376) : binD .fdiv os (.int i) (.int j) = some (.int (i / j), false) :=
  bin_fdiv h (Nat.lt_trans (log_lt (n := 100) (by omega) (by decide)) (by decide))
theorem mulOk_s {i j : Int} (h1 : -1267650600228229401496703205376 < i) (h2 : i < 1267650600228229401496703205376) (h3 : -1267650600228229401496703205376 < j) (h4 : j < 1267650600228229401496703205376) : mulOk i j = true := by
  have a := log_lt (i := i) (n := 100) (by omega) (by decide)
  have b := log_lt (i := j) (n := 100) (by omega) (by decide)
  unfold mulOk
  exact decide_eq_true (by omega)
/-- as a script's number may be -/
def Big (i : Int) : Prop := i.natAbs.log2 ≤ 10000000
theorem mulOk_b {i j : Int} (h : Big i) (h3 : -1267650600228229401496703205376 < j) (h4 : j < 1267650600228229401496703205376) : mulOk i j = true := by
  have b := log_lt (i := j) (n := 100) (by omega) (by decide)
  unfold Big at h
  unfold mulOk
  exact decide_eq_true (by omega)
theorem big_of {z : Int} (h : Builtin.Int.intBits z ≤ 1048576) : Big z := by
  unfold Big
  unfold Builtin.Int.intBits at h
  split at h
  · rename_i q
    have : z = 0 := by simpa using q
    subst this
    decide
  · omega
theorem cmp_lt {os : Os} {i j : Int} : cmpD .lt os (.int i) (.int j) = some (decide (i < j)) := rfl
theorem cmp_le {os : Os} {i j : Int} : cmpD .le os (.int i) (.int j) = some (decide (i ≤ j)) := rfl
theorem cmp_gt {os : Os} {i j : Int} : cmpD .gt os (.int i) (.int j) = some (decide (j < i)) := rfl
theorem cmp_ge {os : Os} {i j : Int} : cmpD .ge os (.int i) (.int j) = some (decide (j ≤ i)) := rfl
theorem cmp_eqI {os : Os} {i j : Int} : cmpD .eq os (.int i) (.int j) = some (decide (i = j)) := by
  simp only [cmpD, snap, dep, eqD]
  rw [if_pos ⟨Nat.zero_le _, Nat.zero_le _⟩]
  rfl
theorem cmp_neI {os : Os} {i j : Int} : cmpD .ne os (.int i) (.int j) = some (!decide (i = j)) := by
  simp only [cmpD, snap, dep, eqD]
  rw [if_pos ⟨Nat.zero_le _, Nat.zero_le _⟩]
  rfl
theorem cmp_eqB {os : Os} {i j : Bool} : cmpD .eq os (.bl i) (.bl j) = some (i == j) := by
  simp only [cmpD, snap, dep, eqD]
  rw [if_pos ⟨Nat.zero_le _, Nat.zero_le _⟩]
theorem cmp_neB {os : Os} {i j : Bool} : cmpD .ne os (.bl i) (.bl j) = some (!(i == j)) := by
  simp only [cmpD, snap, dep, eqD]
  rw [if_pos ⟨Nat.zero_le _, Nat.zero_le _⟩]
/-- a list of numbers -/
abbrev nums (l : List Int) : List D := l.map D.int
theorem deps_ints : ∀ l : List Int, deps (nums l) = some 0
  | [] => rfl
  | i :: l => by
    show (match dep (.int i), deps (nums l) with | some a, some b => some (max a b) | _, _ => none) = _
    rw [deps_ints l]; rfl
theorem eqDs_ints : ∀ l m : List Int, eqDs (nums l) (nums m) = decide (l = m)
  | [], [] => by simp [eqDs]
  | [], _ :: _ => by simp [eqDs]
  | _ :: _, [] => by simp [eqDs]
  | i :: l, j :: m => by
    have := eqDs_ints l m
    simp only [nums, List.map_cons, eqDs, eqD] at this ⊢
    rw [this]
    by_cases h1 : i = j <;> by_cases h2 : l = m <;> simp [h1, h2]
theorem cmp_eqL {os : Os} {l m : List Int} : cmpD .eq os (.lst (nums l)) (.lst (nums m)) = some (decide (l = m)) := by
  simp only [cmpD, snap, dep, eqD, deps_ints, Option.map_some, eqDs_ints]
  rw [if_pos ⟨by decide, by decide⟩]
theorem cmp_neL {os : Os} {l m : List Int} : cmpD .ne os (.lst (nums l)) (.lst (nums m)) = some (!decide (l = m)) := by
  simp only [cmpD, snap, dep, eqD, deps_ints, Option.map_some, eqDs_ints]
  rw [if_pos ⟨by decide, by decide⟩]
theorem atI_map {α β : Type} (f : α → β) (xs : List α) (i : Int) : atI (xs.map f) i = (atI xs i).map f := by
  unfold atI
  rw [List.length_map]
  cases ixN xs.length i with
  | none => rfl
  | some j => simp
theorem ix_lst {os : Os} {ds : List D} {k : Int} : ixD os (.lst ds) (.int k) = atI ds k := rfl
theorem ix_tup' {os : Os} {ds : List D} {k : Int} : ixD os (.tup ds) (.int k) = atI ds k := rfl
theorem still_nil {os : Os} : still os [] := fun p h => by cases h
theorem boxes_ints {os : Os} {l : List Int} : boxesOf os [.lst (nums l)] = [] := rfl
theorem mut_app {ds : List D} {y : D} {os : Os} (h : ds.length < 16777216) : mutL "append" ds [y] os = some (ds ++ [y]) := by
  unfold mutL
  rw [if_pos rfl]
  show (if ds.length < sizeLine then some (ds ++ [y]) else none) = _
  rw [if_pos (by unfold sizeLine; omega)]
theorem nums_app (l m : List Int) : nums l ++ nums m = nums (l ++ m) := by simp [nums]
theorem nums_app1 (l : List Int) (i : Int) : nums l ++ [D.int i] = nums (l ++ [i]) := by simp [nums]
/-- a loop that goes to its end -/
theorem forL_all {tg : Tg} {bod : Z → R Z Fl} {os : Os} {P : List Ent → Prop} : ∀ (xs : List D) (env : List Ent), P env →
    (∀ x ∈ xs, ∀ env, P env → ∃ env' f env2, setT tg x env = some env' ∧ bod ⟨env', os⟩ = .ok f ⟨env2, os⟩ ∧ (∀ d fr, f ≠ .ret d fr) ∧ P env2) → ∃ env2, forL tg bod [] xs ⟨env, os⟩ = .ok .next ⟨env2, os⟩ ∧ P env2
  | [], env, p, h => ⟨env, by simp only [forL]; rw [if_pos still_nil], p⟩
  | x :: xs, env, p, h => by
    obtain ⟨env', f, env2, h1, h2, h3, h4⟩ := h x (by simp) env p
    obtain ⟨env3, h5, h6⟩ := forL_all xs env2 h4 fun y hy => h y (List.mem_cons_of_mem _ hy)
    refine ⟨env3, ?_, h6⟩
    simp only [forL]
    rw [if_pos still_nil, h1]
    simp only [h2, R.bind_ok]
    cases f with
    | ret d fr => exact absurd rfl (h3 d fr)
    | next => exact h5
    | cont => exact h5
theorem call_eq {T : Tb} {k f : Nat} {d : Df} {ds : List D} {os : Os} (h : T.defs[f]? = some d) (hl : ds.length = d.n) : call T (k + 1) f ds os = outF (execB (T.cf k) d.body ⟨envOf d.m ds, os⟩) := by
  simp only [call, h, hl, if_true]
  rfl
theorem cf_call {T : Tb} {k : Nat} : (T.cf k).call = call T k := rfl
theorem cf_fuel {T : Tb} {k : Nat} : (T.cf k).fuel = T.fuel := rfl
theorem cmp_eqN {os : Os} {l : List Int} : cmpD .eq os (.lst (nums l)) (.lst []) = some (decide (l = [])) := cmp_eqL (m := [])
theorem src_range1 {os : Os} {b : Int} (h : b < 4611686018427387904) (h' : -4611686018427387904 ≤ b) : srcOf os .range [.int b] = some ((List.range b.toNat).map fun i : Nat => D.int i) := by
  simp only [srcOf]
  rw [if_pos (show Rg1 b from ⟨by omega, by omega⟩)]
theorem ixN_nat {n k : Nat} (h : k < n) : ixN n (k : Int) = some k := by
  unfold ixN
  rw [if_pos (by omega), if_pos (by omega)]
  simp
theorem atI_nat {α : Type} {xs : List α} {k : Nat} (h : k < xs.length) : atI xs (k : Int) = some xs[k] := by
  unfold atI
  rw [ixN_nat h]
  simp [h]
theorem atI_last {α : Type} {xs : List α} (h : 0 < xs.length) : atI xs (-1) = some (xs[xs.length - 1]'(by omega)) := by
  unfold atI ixN
  rw [if_neg (by omega), if_pos (by omega)]
  have : ((-1 : Int) + (xs.length : Int)).toNat = xs.length - 1 := by omega
  rw [Option.bind_some, this, List.getElem?_eq_getElem]
theorem len_lst {os : Os} {ds : List D} : fnD .len os [.lst ds] = some (.int ds.length, false) := rfl
/-- what comes behind is not looked at before its time -/
theorem R.bind_congr {σ α β : Type} {r r' : R σ α} {f : α → σ → R σ β} (h : r = r') : r.bind f = r'.bind f := by rw [h]
theorem fn_list {os : Os} {ds : List D} : fnD .list os [.lst ds] = some (.lst ds, true) := rfl
theorem fn_max {os : Os} {i j : Int} : fnD .max os [.int i, .int j] = some (.int (if j > i then j else i), false) := rfl
theorem fn_min {os : Os} {i j : Int} : fnD .min os [.int i, .int j] = some (.int (if j < i then j else i), false) := rfl
theorem is_int {i : Int} {ts : List Ty} {z : Z} : isiZ ts z (.int i) = .ok (.bl (ts.any fun t => isD t (.int i)), false) z := rfl
theorem is_lst {i : List D} {ts : List Ty} {z : Z} : isiZ ts z (.lst i) = .ok (.bl (ts.any fun t => isD t (.lst i)), false) z := rfl
theorem is_tup {i : List D} {ts : List Ty} {z : Z} : isiZ ts z (.tup i) = .ok (.bl (ts.any fun t => isD t (.tup i)), false) z := rfl
theorem is_bl {i : Bool} {ts : List Ty} {z : Z} : isiZ ts z (.bl i) = .ok (.bl (ts.any fun t => isD t (.bl i)), false) z := rfl
theorem is_str {i : Str} {ts : List Ty} {z : Z} : isiZ ts z (.str i) = .ok (.bl (ts.any fun t => isD t (.str i)), false) z := rfl
theorem is_non {ts : List Ty} {z : Z} : isiZ ts z .non = .ok (.bl (ts.any fun t => isD t .non), false) z := rfl
theorem neg_int {i : Int} {z : Z} : negZ z (.int i) = .ok (.int (-i), false) z := rfl
theorem call_ok' {cf : CF} {f : Nat} {ds : List D} {z : Z} {a : D × Bool} {os' : Os} (h : cf.call f ds z.os = .ok a os') : callZ cf f ds z = .ok a { z with os := os' } := by
  unfold callZ; rw [h]
theorem cmp_eqL' {os : Os} {l m : List Int} : cmpD .eq os (.lst (l.map D.int)) (.lst (m.map D.int)) = some (decide (l = m)) := cmp_eqL
theorem cmp_eqN' {os : Os} {l : List Int} : cmpD .eq os (.lst (l.map D.int)) (.lst []) = some (decide (l = [])) := cmp_eqN
theorem bin_addL {os : Os} {a b : List D} (h : a.length + b.length ≤ 16777216) : binD .add os (.lst a) (.lst b) = some (.lst (a ++ b), true) := by
  simp only [binD, rdL]
  rw [if_pos (show a.length + b.length ≤ sizeLine from h)]
theorem sl_lst {os : Os} {a : List D} {lo hi : Option Int} : slD os (.lst a) lo hi = some (.lst (cutD a lo hi), true) := rfl
theorem cutD_map {α β : Type} (f : α → β) (l : List α) (lo hi : Option Int) : cutD (l.map f) lo hi = (cutD l lo hi).map f := by
  simp only [cutD, List.length_map, List.map_take, List.map_drop]
theorem cutD_mem {α : Type} {l : List α} {lo hi : Option Int} {x : α} (h : x ∈ cutD l lo hi) : x ∈ l := List.mem_of_mem_drop (List.mem_of_mem_take h)
theorem cutD_len {α : Type} {l : List α} {lo hi : Option Int} : (cutD l lo hi).length ≤ l.length := by
  unfold cutD
  rw [List.length_take, List.length_drop]; omega
end
end Vi

namespace Vi
open PySem L2
noncomputable section
open Classical
section
variable {cf : CF} {z : Z} {os : Os}
theorem R.cg {σ α β : Type} {r r' : R σ α} {f : α → σ → R σ β} (h : r = r') : r.bind f = r'.bind f := by rw [h]
@[simp ↓] theorem r_ok {σ α β : Type} {a : α} {s : σ} {f : α → σ → R σ β} : (R.ok a s).bind f = f a s := rfl
@[simp ↓] theorem r_exc {σ α β : Type} {c : Nat} {x : D} {s : σ} {f : α → σ → R σ β} : (R.exc c x s : R σ α).bind f = .exc c x s := rfl
@[simp ↓] theorem r_stuck {σ α β : Type} {f : α → σ → R σ β} : (R.stuck : R σ α).bind f = .stuck := rfl
@[simp ↓] theorem o_t {a : D × Bool} : ofT z (some a) = .ok a z := rfl
@[simp ↓] theorem o_d {a : D} : ofD z (some a) = .ok (a, false) z := rfl
@[simp ↓] theorem o_b {a : Bool} : ofB z (some a) = .ok (.bl a, false) z := rfl
@[simp] theorem e_c {d : D} : evalE cf (.c d) z = .ok (d, false) z := by simp only [evalE]
/-- what a slot has -/
def getZ {α β : Type} (o : Option Ent) (f : D → Bool → R α β) : R α β := match o with
  | some (.val d fr) => f d fr
  | _ => .stuck
@[simp ↓] theorem getZ_some {α β : Type} {d : D} {fr : Bool} {f : D → Bool → R α β} : getZ (some (.val d fr)) f = f d fr := rfl
theorem getZ_cg {α β : Type} {o o' : Option Ent} {f : D → Bool → R α β} (h : o = o') : getZ o f = getZ o' f := by rw [h]
@[simp] theorem e_v {i : Nat} : evalE cf (.v i) z = getZ z.env[i]? fun d fr => if (fr && d.cell) = true then .ok (d, false) { z with env := z.env.set i (.val d false) } else .ok (d, false) z := by
  simp only [evalE]; rfl
@[simp] theorem e_b {i : Nat} : evalE cf (.b i) z = getZ z.env[i]? fun d _ => .ok (d, false) z := by simp only [evalE]; rfl
@[simp] theorem e_tup {es : List E} : evalE cf (.tup es) z = (evalEs cf es z).bind fun ds z => .ok (.tup ds, false) z := by simp only [evalE]
@[simp] theorem e_lst {es : List E} : evalE cf (.lst es) z = (evalEs cf es z).bind fun ds z => .ok (.lst ds, true) z := by simp only [evalE]
@[simp] theorem e_box {e : E} : evalE cf (.box e) z = (evalE cf e z).bind fun a z => boxZ z a := by simp only [evalE]
@[simp] theorem e_bin {o : Bop} {a b : E} : evalE cf (.bin o a b) z = (evalE cf a z).bind fun x z => (evalE cf b z).bind fun y z => ofT z (binD o z.os x.1 y.1) := by simp only [evalE]
@[simp] theorem e_neg {a : E} : evalE cf (.neg a) z = (evalE cf a z).bind fun x z => negZ z x.1 := by simp only [evalE]
def notZ (z : Z) (x : D) : R Z (D × Bool) := match x with
  | .bl b => .ok (.bl (!b), false) z
  | _ => .stuck
@[simp] theorem notZ_bl {b : Bool} : notZ z (.bl b) = .ok (.bl (!b), false) z := rfl
@[simp] theorem e_not {a : E} : evalE cf (.not a) z = (evalE cf a z).bind fun x z => notZ z x.1 := by simp only [evalE]; rfl
@[simp] theorem e_cmp {o : Cop} {a b : E} : evalE cf (.cmp o a b) z = (evalE cf a z).bind fun x z => (evalE cf b z).bind fun y z => ofB z (cmpD o z.os x.1 y.1) := by simp only [evalE]
/-- the two ways behind a test -/
def pickZ {α : Type} (x : D) (t f : Unit → R Z α) : R Z α := match x with
  | .bl true => t ()
  | .bl false => f ()
  | _ => .stuck
@[simp ↓] theorem pick_t {α : Type} {t f : Unit → R Z α} : pickZ (.bl true) t f = t () := rfl
@[simp ↓] theorem pick_f {α : Type} {t f : Unit → R Z α} : pickZ (.bl false) t f = f () := rfl
theorem pick_cg {α : Type} {x x' : D} {t f : Unit → R Z α} (h : x = x') : pickZ x t f = pickZ x' t f := by rw [h]
def pickO {α : Type} (x : Option Bool) (t f : Unit → R Z α) : R Z α := match x with
  | some true => t ()
  | some false => f ()
  | none => .stuck
@[simp ↓] theorem pickO_t {α : Type} {t f : Unit → R Z α} : pickO (some true) t f = t () := rfl
@[simp ↓] theorem pickO_f {α : Type} {t f : Unit → R Z α} : pickO (some false) t f = f () := rfl
theorem pickO_cg {α : Type} {x x' : Option Bool} {t f : Unit → R Z α} (h : x = x') : pickO x t f = pickO x' t f := by rw [h]
@[simp] theorem e_chain {o o' : Cop} {a b c : E} : evalE cf (.chain o o' a b c) z = (evalE cf a z).bind fun x z => (evalE cf b z).bind fun y z => pickO (cmpD o z.os x.1 y.1) (fun _ => (evalE cf c z).bind fun u z => ofB z (cmpD o' z.os y.1 u.1)) (fun _ => .ok (.bl false, false) z) := by
  simp only [evalE]; rfl
@[simp] theorem e_and {a b : E} : evalE cf (.and a b) z = (evalE cf a z).bind fun x z => pickZ x.1 (fun _ => evalE cf b z) (fun _ => .ok (.bl false, false) z) := by simp only [evalE]; rfl
@[simp] theorem e_or {a b : E} : evalE cf (.or a b) z = (evalE cf a z).bind fun x z => pickZ x.1 (fun _ => .ok (.bl true, false) z) (fun _ => evalE cf b z) := by simp only [evalE]; rfl
@[simp] theorem e_ite {c a b : E} : evalE cf (.ite c a b) z = (evalE cf c z).bind fun x z => pickZ x.1 (fun _ => evalE cf a z) (fun _ => evalE cf b z) := by simp only [evalE]; rfl
@[simp] theorem e_ix {a i : E} : evalE cf (.ix a i) z = (evalE cf a z).bind fun x z => (evalE cf i z).bind fun y z => ofD z (ixD z.os x.1 y.1) := by simp only [evalE]
@[simp] theorem e_sl {a : E} {lo hi : List E} : evalE cf (.sl a lo hi) z = (evalE cf a z).bind fun x z => (evalEs cf lo z).bind fun l z => withI (intO l) fun l => (evalEs cf hi z).bind fun h z => withI (intO h) fun h => ofT z (slD z.os x.1 l h) := by simp only [evalE]
@[simp] theorem e_rev {a : E} : evalE cf (.rev a) z = (evalE cf a z).bind fun x z => ofT z ((rdL z.os x.1).map fun ds => (.lst ds.reverse, true)) := by simp only [evalE]
@[simp] theorem e_fld {a : E} {f : Str} : evalE cf (.fld a f) z = (evalE cf a z).bind fun x z => fldZ z f x.1 := by simp only [evalE]
@[simp] theorem e_call {f : Nat} {es : List E} : evalE cf (.call f es) z = (evalEs cf es z).bind fun ds z => callZ cf f ds z := by simp only [evalE]
@[simp] theorem e_fn {f : Fn} {es : List E} : evalE cf (.fn f es) z = (evalEs cf es z).bind fun ds z => ofT z (fnD f z.os ds) := by simp only [evalE]
@[simp] theorem e_isi {e : E} {ts : List Ty} : evalE cf (.isi e ts) z = (evalE cf e z).bind fun x z => isiZ ts z x.1 := by simp only [evalE]
@[simp] theorem e_comp0 {elt : E} {tg : Tg} {k : ItK} {src : List E} : evalE cf (.comp elt tg k src []) z = (evalEs cf src z).bind fun ds z => compK tg k yesZ (evalE cf elt) ds z := by simp only [evalE]
@[simp] theorem e_comp1 {elt c : E} {cs : List E} {tg : Tg} {k : ItK} {src : List E} : evalE cf (.comp elt tg k src (c :: cs)) z = (evalEs cf src z).bind fun ds z => compK tg k (evalE cf c) (evalE cf elt) ds z := by simp only [evalE]
@[simp] theorem es_nil : evalEs cf [] z = .ok [] z := by simp only [evalEs]
@[simp] theorem es_cons {e : E} {es : List E} : evalEs cf (e :: es) z = (evalE cf e z).bind fun x z => (evalEs cf es z).bind fun xs z => .ok (x.1 :: xs) z := by simp only [evalEs]
@[simp] theorem x_nm {i : Nat} {e : E} : execS cf (.set (.nm i) e) z = (evalE cf e z).bind fun a z => .ok .next { z with env := z.env.set i (.val a.1 a.2) } := by simp only [execS]
def tpZ (z : Z) (o : Option (List Ent)) : R Z Fl := match o with
  | some env => .ok .next { z with env := env }
  | none => .stuck
@[simp] theorem tpZ_some {env : List Ent} : tpZ z (some env) = .ok .next { z with env := env } := rfl
@[simp] theorem x_tp {ts : List Tg} {e : E} : execS cf (.set (.tp ts) e) z = (evalE cf e z).bind fun a z => tpZ z (setT (.tp ts) a.1 z.env) := by simp only [execS]; rfl
def wrL (z : Z) (x : Nat) (o : Option (List D)) : R Z Fl := match o with
  | some ds' => .ok .next (putL z x ds')
  | none => .stuck
@[simp] theorem wrL_some {x : Nat} {ds : List D} : wrL z x (some ds) = .ok .next (putL z x ds) := rfl
def onL {α β : Type} (o : Option (List D)) (f : List D → R α β) : R α β := match o with
  | some ds => f ds
  | none => .stuck
@[simp ↓] theorem onL_some {α β : Type} {ds : List D} {f : List D → R α β} : onL (some ds) f = f ds := rfl
theorem onL_cg {α β : Type} {o o' : Option (List D)} {f : List D → R α β} (h : o = o') : onL o f = onL o' f := by rw [h]
@[simp] theorem x_setV {x : Nat} {i e : E} : execS cf (.setV x i e) z = (evalE cf e z).bind fun y z => onL (lisAt z x) fun _ => (evalE cf i z).bind fun j z => onL (lisAt z x) fun ds => wrL z x (setC ds j.1 y.1) := by simp only [execS]; rfl
@[simp] theorem x_mut {m : Str} {x : Nat} {es : List E} : execS cf (.mut m x es) z = onL (lisAt z x) fun _ => (evalEs cf es z).bind fun ys z => onL (lisAt z x) fun ds => wrL z x (mutL m ds ys z.os) := by simp only [execS]; rfl
@[simp] theorem x_expr {e : E} : execS cf (.expr e) z = (evalE cf e z).bind fun _ z => .ok .next z := by simp only [execS]
@[simp] theorem x_if {c : E} {a b : List S} : execS cf (.ifS c a b) z = (evalE cf c z).bind fun x z => pickZ x.1 (fun _ => execB cf a z) (fun _ => execB cf b z) := by simp only [execS]; rfl
@[simp] theorem x_whl {c : E} {a : List S} : execS cf (.whl c a) z = whlL (evalE cf c) (execB cf a) cf.fuel z := by simp only [execS]
@[simp] theorem x_for {t : Tg} {k : ItK} {src : List E} {a : List S} : execS cf (.for t k src a) z = (evalEs cf src z).bind fun ds z => onL (srcOf z.os k ds) fun xs => forL t (execB cf a) (boxesOf z.os ds) xs z := by simp only [execS]; rfl
@[simp] theorem x_retv {i : Nat} : execS cf (.ret (.v i)) z = getZ z.env[i]? fun d fr => .ok (.ret d fr) z := by simp only [execS]; rfl
@[simp] theorem x_ret {e : E} (h : ∀ i, e ≠ .v i) : execS cf (.ret e) z = (evalE cf e z).bind fun a z => .ok (.ret a.1 a.2) z := by
  cases e <;> first | (simp only [execS]; done) | exact absurd rfl (h _)
@[simp] theorem x_retN : execS cf .retN z = .ok (.ret .non false) z := by simp only [execS]
@[simp] theorem x_cont : execS cf .cont z = .ok .cont z := by simp only [execS]
@[simp] theorem x_pass : execS cf .pass z = .ok .next z := by simp only [execS]
/-- on, where nothing else was said -/
def onF (f : Fl) (z : Z) (r : Z → R Z Fl) : R Z Fl := match f with
  | .next => r z
  | f => .ok f z
@[simp ↓] theorem onF_n {r : Z → R Z Fl} : onF .next z r = r z := rfl
@[simp ↓] theorem onF_c {r : Z → R Z Fl} : onF .cont z r = .ok .cont z := rfl
@[simp ↓] theorem onF_r {d : D} {fr : Bool} {r : Z → R Z Fl} : onF (.ret d fr) z r = .ok (.ret d fr) z := rfl
@[simp] theorem b_nil : execB cf [] z = .ok .next z := by simp only [execB]
@[simp] theorem b_cons {s : S} {r : List S} : execB cf (s :: r) z = (execS cf s z).bind fun f z => onF f z fun z => execB cf r z := by
  simp only [execB]; rfl
@[simp] theorem env_def {m : Nat} {ds : List D} : envOf m ds = ds.map (fun d => Ent.val d false) ++ List.replicate (m - ds.length) .no := rfl
@[simp] theorem out_n {z : Z} : outF (.ok .next z) = .ok (.non, false) z.os := rfl
@[simp] theorem out_r {z : Z} {d : D} {fr : Bool} : outF (.ok (.ret d fr) z) = .ok (d, fr) z.os := rfl
@[simp] theorem out_x {z : Z} {c : Nat} {x : D} : outF (.exc c x z) = .exc c x z.os := rfl
@[simp] theorem lisAt_def {x : Nat} : lisAt z x = match z.env[x]? with
  | some (.val (.lst ds) true) => some ds
  | some (.val (.box k) _) => match z.os[k]? with
    | some (.lst ds) => some ds
    | _ => none
  | _ => none := rfl
@[simp] theorem putL_def {x : Nat} {ds : List D} : putL z x ds = match z.env[x]? with
  | some (.val (.box k) _) => { z with os := z.os.set k (.lst ds) }
  | _ => { z with env := z.env.set x (.val (.lst ds) true) } := rfl
@[simp] theorem cell_l {ds : List D} : (D.lst ds).cell = true := rfl
@[simp] theorem cell_d {ds : List (D × D)} : (D.dct ds).cell = true := rfl
@[simp] theorem cell_i {i : Int} : (D.int i).cell = false := rfl
@[simp] theorem cell_s {i : Str} : (D.str i).cell = false := rfl
@[simp] theorem cell_b {i : Bool} : (D.bl i).cell = false := rfl
@[simp] theorem cell_t {i : List D} : (D.tup i).cell = false := rfl
@[simp] theorem cell_n : D.non.cell = false := rfl
@[simp] theorem cell_x {i : Nat} : (D.box i).cell = false := rfl
@[simp] theorem rdL_l {ds : List D} : rdL os (.lst ds) = some ds := rfl
@[simp] theorem setT_n {i : Nat} {d : D} {env : List Ent} : setT (.nm i) d env = some (env.set i (.val d false)) := by simp only [setT]
@[simp] theorem setT_t {ts : List Tg} {ds : List D} {env : List Ent} : setT (.tp ts) (.tup ds) env = setTs ts ds env := by simp only [setT]
@[simp] theorem setTs_n {env : List Ent} : setTs [] [] env = some env := by simp only [setTs]
@[simp] theorem setTs_c {t : Tg} {ts : List Tg} {d : D} {ds : List D} {env : List Ent} : setTs (t :: ts) (d :: ds) env = (setT t d env).bind (setTs ts ds) := by simp only [setTs]
@[simp] theorem withI_s {σ α : Type} {o : Option Int} {f : Option Int → R σ α} : withI (some o) f = f o := rfl
@[simp] theorem intO_n : intO [] = some none := rfl
@[simp] theorem intO_1 {i : Int} : intO [.int i] = some (some i) := rfl
@[simp] theorem yes_def : yesZ z = .ok (.bl true, false) z := rfl
@[simp] theorem c_call {T : Tb} {k : Nat} : (T.cf k).call = call T k := rfl
@[simp] theorem c_fuel {T : Tb} {k : Nat} : (T.cf k).fuel = T.fuel := rfl
@[simp] theorem callZ_def {f : Nat} {ds : List D} : callZ cf f ds z = match cf.call f ds z.os with
  | .ok a os => .ok a { z with os := os }
  | .exc c x os => .exc c x { z with os := os }
  | .stuck => .stuck := rfl
@[simp] theorem i_int {i : Int} {ts : List Ty} : isiZ ts z (.int i) = .ok (.bl (ts.any fun t => isD t (.int i)), false) z := rfl
@[simp] theorem i_lst {i : List D} {ts : List Ty} : isiZ ts z (.lst i) = .ok (.bl (ts.any fun t => isD t (.lst i)), false) z := rfl
@[simp] theorem i_tup {i : List D} {ts : List Ty} : isiZ ts z (.tup i) = .ok (.bl (ts.any fun t => isD t (.tup i)), false) z := rfl
@[simp] theorem i_bl {i : Bool} {ts : List Ty} : isiZ ts z (.bl i) = .ok (.bl (ts.any fun t => isD t (.bl i)), false) z := rfl
@[simp] theorem i_str {i : Str} {ts : List Ty} : isiZ ts z (.str i) = .ok (.bl (ts.any fun t => isD t (.str i)), false) z := rfl
@[simp] theorem i_non {ts : List Ty} : isiZ ts z .non = .ok (.bl (ts.any fun t => isD t .non), false) z := rfl
@[simp] theorem d_ii {i : Int} : isD .int (.int i) = true := rfl
@[simp] theorem d_ib {i : Bool} : isD .int (.bl i) = true := rfl
@[simp] theorem d_bb {i : Bool} : isD .bool (.bl i) = true := rfl
@[simp] theorem d_bi {i : Int} : isD .bool (.int i) = false := rfl
@[simp] theorem d_ss {i : Str} : isD .str (.str i) = true := rfl
@[simp] theorem d_ll {i : List D} : isD .list (.lst i) = true := rfl
@[simp] theorem d_tt {i : List D} : isD .tuple (.tup i) = true := rfl
@[simp] theorem a_neg {i : Int} : negZ z (.int i) = .ok (.int (-i), false) z := rfl
@[simp] theorem f_list {ds : List D} : fnD .list os [.lst ds] = some (.lst ds, true) := rfl
@[simp] theorem f_max {i j : Int} : fnD .max os [.int i, .int j] = some (.int (if j > i then j else i), false) := rfl
@[simp] theorem f_min {i j : Int} : fnD .min os [.int i, .int j] = some (.int (if j < i then j else i), false) := rfl
@[simp] theorem f_len {ds : List D} : fnD .len os [.lst ds] = some (.int ds.length, false) := rfl
@[simp] theorem f_lent {ds : List D} : fnD .len os [.tup ds] = some (.int ds.length, false) := rfl
@[simp] theorem f_abs {i : Int} : fnD .abs os [.int i] = some (.int (if i < 0 then -i else i), false) := rfl
@[simp] theorem n_add {i j : Int} : binD .add os (.int i) (.int j) = some (.int (i + j), false) := rfl
@[simp] theorem n_sub {i j : Int} : binD .sub os (.int i) (.int j) = some (.int (i - j), false) := rfl
@[simp] theorem n_mul {i j : Int} (h : mulOk i j = true) : binD .mul os (.int i) (.int j) = some (.int (i * j), false) := bin_mul h
@[simp] theorem n_mod {i j : Int} (h : 0 < j) : binD .mod os (.int i) (.int j) = some (.int (i % j), false) := bin_mod h
@[simp] theorem n_fdiv {i j : Int} (h : 0 < j) (h' : j < 1267650600228229401496703205376) : binD .fdiv os (.int i) (.int j) = some (.int (i / j), false) := bin_fdivS h h'
@[simp] theorem q_lt {i j : Int} : cmpD .lt os (.int i) (.int j) = some (decide (i < j)) := rfl
@[simp] theorem q_le {i j : Int} : cmpD .le os (.int i) (.int j) = some (decide (i ≤ j)) := rfl
@[simp] theorem q_gt {i j : Int} : cmpD .gt os (.int i) (.int j) = some (decide (j < i)) := rfl
@[simp] theorem q_ge {i j : Int} : cmpD .ge os (.int i) (.int j) = some (decide (j ≤ i)) := rfl
@[simp] theorem q_eq {i j : Int} : cmpD .eq os (.int i) (.int j) = some (decide (i = j)) := cmp_eqI
@[simp] theorem q_ne {i j : Int} : cmpD .ne os (.int i) (.int j) = some (!decide (i = j)) := cmp_neI
@[simp] theorem q_eqb {i j : Bool} : cmpD .eq os (.bl i) (.bl j) = some (i == j) := cmp_eqB
@[simp] theorem q_neb {i j : Bool} : cmpD .ne os (.bl i) (.bl j) = some (!(i == j)) := cmp_neB
@[simp] theorem q_eql {l m : List Int} : cmpD .eq os (.lst (l.map D.int)) (.lst (m.map D.int)) = some (decide (l = m)) := cmp_eqL
@[simp] theorem q_nel {l m : List Int} : cmpD .ne os (.lst (l.map D.int)) (.lst (m.map D.int)) = some (!decide (l = m)) := cmp_neL
@[simp] theorem y_lst {ds : List D} {k : Int} : ixD os (.lst ds) (.int k) = atI ds k := rfl
@[simp] theorem y_tup {ds : List D} {k : Int} : ixD os (.tup ds) (.int k) = atI ds k := rfl
@[simp] theorem y_sl {a : List D} {lo hi : Option Int} : slD os (.lst a) lo hi = some (.lst (cutD a lo hi), true) := rfl
@[simp] theorem v_lst {l : List D} : srcOf os .val [.lst l] = some l := rfl
@[simp] theorem v_tup {l : List D} : srcOf os .val [.tup l] = some l := rfl
@[simp] theorem bx_l {l : List D} : boxesOf os [.lst l] = [] := rfl
@[simp] theorem bx_t {l : List D} : boxesOf os [.tup l] = [] := rfl
@[simp] theorem bx_i {l : Int} : boxesOf os [.int l] = [] := rfl
@[simp] theorem bx_i2 {l m : Int} : boxesOf os [.int l, .int m] = [] := rfl
@[simp] theorem bx_i3 {l m n : Int} : boxesOf os [.int l, .int m, .int n] = [] := rfl
@[simp] theorem e_dct {cf : CF} {z : Z} : evalE cf (.dct [] []) z = .ok (.dct [], true) z := by simp only [evalE]
/-- on, where it may be asked -/
def ifZ {α β : Type} (b : Bool) (f : Unit → R α β) : R α β := if b = true then f () else .stuck
@[simp ↓] theorem ifZ_t {α β : Type} {f : Unit → R α β} : ifZ true f = f () := rfl
@[simp] theorem e_meth {cf : CF} {z : Z} {m : Mt} {o : E} {es : List E} : evalE cf (.meth m o es) z = (evalE cf o z).bind fun x z => ifZ (mtOk m z.os x.1) fun _ => (evalEs cf es z).bind fun ys z => ofT z (methD m z.os x.1 ys) := by
  simp only [evalE]; rfl
@[simp] theorem mtOk_j {os : Os} {a : Str} : mtOk .join os (.str a) = true := rfl
@[simp] theorem mtOk_f {os : Os} {a : Str} : mtOk .find os (.str a) = true := rfl
@[simp] theorem mtOk_s {os : Os} {a : Str} : mtOk .split os (.str a) = true := rfl
@[simp] theorem mtOk_i {os : Os} {a : List D} : mtOk .index os (.lst a) = true := rfl
end
end
end Vi

namespace Vi
open PySem L2
noncomputable section
open Classical

/-! ### more of the plain side -/
theorem log2_mono {a b : Nat} (h : a ≤ b) : a.log2 ≤ b.log2 := by
  by_cases h0 : a = 0
  · subst h0; simp
  · have : a < 2 ^ (b.log2 + 1) := Nat.lt_of_le_of_lt h Nat.lt_log2_self
    have := (Nat.log2_lt h0).mpr this
    omega
theorem big_le {i j : Int} (h : Big j) (h' : i.natAbs ≤ j.natAbs) : Big i := Nat.le_trans (log2_mono h') h
theorem big_div {i : Int} (h : Big i) (n : Int) : Big (i / n) := big_le h (Int.natAbs_ediv_le_natAbs _ _)
theorem big_small {i : Int} (h1 : -1267650600228229401496703205376 < i) (h2 : i < 1267650600228229401496703205376) : Big i := by
  have := log_lt (i := i) (n := 100) (by omega) (by decide)
  unfold Big; omega
theorem mulOk_bb {i j : Int} (h : Big i) (h' : j.natAbs.log2 < 10000) : mulOk i j = true := by
  unfold Big at h
  unfold mulOk
  exact decide_eq_true (by omega)
theorem bin_pow {os : Os} {i j : Int} (h : PowOk i j) : binD .pow os (.int i) (.int j) = some (.int (i ^ j.toNat), false) := by
  simp only [binD]; rw [if_pos h]
@[simp] theorem n_pow {os : Os} {i : Int} {j : Nat} (h1 : j ≤ 1000) (h2 : i.natAbs < 18446744073709551616) : binD .pow os (.int i) (.int (OfNat.ofNat j)) = some (.int (i ^ j), false) := by
  have : (OfNat.ofNat j : Int) = (j : Int) := rfl
  rw [this, bin_pow ⟨by omega, by omega, by omega⟩]
  rfl
theorem deps_nums (l : List Int) : deps (l.map D.int) = some 0 := deps_ints l
theorem eqDs_nums (l m : List Int) : eqDs (l.map D.int) (m.map D.int) = decide (l = m) := eqDs_ints l m
@[simp] theorem q_eqt {os : Os} {l m : List Int} : cmpD .eq os (.tup (l.map D.int)) (.tup (m.map D.int)) = some (decide (l = m)) := by
  simp only [cmpD, snap, dep, eqD, deps_nums, Option.map_some, eqDs_nums]
  rw [if_pos ⟨by decide, by decide⟩]
@[simp] theorem q_net {os : Os} {l m : List Int} : cmpD .ne os (.tup (l.map D.int)) (.tup (m.map D.int)) = some (!decide (l = m)) := by
  simp only [cmpD, snap, dep, eqD, deps_nums, Option.map_some, eqDs_nums]
  rw [if_pos ⟨by decide, by decide⟩]
@[simp] theorem q_eqs {os : Os} {s t : Str} : cmpD .eq os (.str s) (.str t) = some (decide (s = t)) := by
  simp only [cmpD, snap, dep, eqD]
  rw [if_pos ⟨by decide, by decide⟩]
@[simp] theorem q_nes {os : Os} {s t : Str} : cmpD .ne os (.str s) (.str t) = some (!decide (s = t)) := by
  simp only [cmpD, snap, dep, eqD]
  rw [if_pos ⟨by decide, by decide⟩]
theorem cut_to {α : Type} {l : List α} {k : Nat} (h : k ≤ l.length) : cutD l none (some (k : Int)) = l.take k := by
  unfold cutD
  rw [HT.sIx_none, HT.sIx_nat, Nat.min_eq_left h]
  simp
theorem cut_from {α : Type} {l : List α} {k : Nat} (h : k ≤ l.length) : cutD l (some (k : Int)) none = l.drop k := by
  unfold cutD
  rw [HT.sIx_none, HT.sIx_nat, Nat.min_eq_left h, List.take_of_length_le (by rw [List.length_drop]; omega)]
theorem cut_toL {α : Type} {l : List α} {k : Nat} : cutD l none (some (k : Int)) = l.take k := by
  unfold cutD
  rw [HT.sIx_none, HT.sIx_nat]
  simp only [List.drop_zero, Nat.sub_zero]
  by_cases h : k ≤ l.length
  · rw [Nat.min_eq_left h]
  · rw [Nat.min_eq_right (by omega), List.take_of_length_le (Nat.le_refl _), List.take_of_length_le (by omega)]
/-! a comprehension without a test, over one name -/
theorem compL_nm {i : Nat} {cf : CF} {elt : E} {os : Os} {f : D → D} : ∀ (xs acc : List D) (env : List Ent), acc.length + xs.length < 16777216 → env[i]? = some .no →
    (∀ x ∈ xs, ∃ fr, evalE cf elt ⟨env.set i (.val x false), os⟩ = .ok (f x, fr) ⟨env.set i (.val x false), os⟩) →
    compL (.nm i) (eltIf yesZ (evalE cf elt)) [] xs acc ⟨env, os⟩ = .ok (acc ++ xs.map f) ⟨env, os⟩
  | [], acc, env, _, _, _ => by
    simp only [compL]
    rw [if_pos still_nil]; simp
  | x :: xs, acc, env, hl, hn, h => by
    obtain ⟨fr, e⟩ := h x (by simp)
    have hi : i < env.length := (List.getElem?_eq_some_iff.mp hn).1
    have hw : wipeE (env.set i (.val x false)) (Tg.slots (.nm i)) = env := by
      simp only [Tg.slots, wipeE, List.set_set]
      apply List.ext_getElem?
      intro j
      by_cases hj : i = j
      · subst hj; rw [List.getElem?_set_self hi, hn]
      · rw [List.getElem?_set_ne hj]
    have ih := compL_nm xs (acc ++ [f x]) env (by simp only [List.length_append, List.length_cons, List.length_nil] at hl ⊢; omega) hn fun y hy => h y (List.mem_cons_of_mem _ hy)
    simp only [compL]
    rw [if_pos still_nil]
    simp only [setT]
    have ev : eltIf yesZ (evalE cf elt) ⟨env.set i (.val x false), os⟩ = .ok (some (f x)) ⟨env.set i (.val x false), os⟩ := by
      simp only [eltIf, yesZ, R.bind_ok, e]
    rw [ev]
    simp only
    rw [if_pos (show acc.length < sizeLine from by unfold sizeLine; simp only [List.length_cons] at hl; omega), hw, ih]
    simp
theorem compK_nm {i : Nat} {cf : CF} {elt : E} {k : ItK} {ds xs : List D} {z : Z} {f : D → D} (h1 : srcOf z.os k ds = some xs) (h2 : boxesOf z.os ds = []) (hl : xs.length < 16777216) (hi : i < z.env.length)
    (h : ∀ x ∈ xs, ∃ fr, evalE cf elt ⟨z.env.set i (.val x false), z.os⟩ = .ok (f x, fr) ⟨z.env.set i (.val x false), z.os⟩) :
    compK (.nm i) k yesZ (evalE cf elt) ds z = .ok (.lst (xs.map f), true) ⟨backE z.env (z.env.set i .no) [i], z.os⟩ := by
  unfold compK
  rw [h1, h2]
  simp only [compZ, Tg.slots, wipeE]
  rw [compL_nm (f := f) xs [] (z.env.set i .no) (by simpa using hl) (by rw [List.getElem?_set_self hi]) fun x hx => by
    obtain ⟨fr, e⟩ := h x hx
    exact ⟨fr, by rw [List.set_set]; exact e⟩]
  simp
@[simp] theorem back_def {old env : List Ent} {i : Nat} : backE old env [i] = env.set i (match old[i]? with
    | some e => if e.owns = true then .no else e
    | none => .no) := rfl
/-! sums, least and greatest -/
def mn : List Int → Int
  | [] => 0
  | i :: r => r.foldl (fun a b => if b < a then b else a) i
def mx : List Int → Int
  | [] => 0
  | i :: r => r.foldl (fun a b => if b > a then b else a) i
theorem intsO_nums : ∀ l : List Int, intsO (l.map D.int) = some l
  | [] => rfl
  | i :: l => by simp [intsO, intsO_nums l]
@[simp] theorem f_sum {os : Os} {l : List Int} : fnD .sum os [.lst (l.map D.int)] = some (.int l.sum, false) := by
  simp only [fnD, rdL, Option.bind_some, intsO_nums]
@[simp] theorem f_minL {os : Os} {l : List Int} (h : l ≠ []) : fnD .min os [.lst (l.map D.int)] = some (.int (mn l), false) := by
  cases l with
  | nil => exact absurd rfl h
  | cons i r => simp only [fnD, rdL, Option.bind_some, intsO_nums, mn]
@[simp] theorem f_maxL {os : Os} {l : List Int} (h : l ≠ []) : fnD .max os [.lst (l.map D.int)] = some (.int (mx l), false) := by
  cases l with
  | nil => exact absurd rfl h
  | cons i r => simp only [fnD, rdL, Option.bind_some, intsO_nums, mx]
def lo2 (a b : Int) : Int := if b < a then b else a
def hi2 (a b : Int) : Int := if b > a then b else a
theorem lo2_assoc (i j x : Int) : lo2 (lo2 i j) x = lo2 i (lo2 j x) := by unfold lo2; repeat' split <;> (try omega)
theorem hi2_assoc (i j x : Int) : hi2 (hi2 i j) x = hi2 i (hi2 j x) := by unfold hi2; repeat' split <;> (try omega)
theorem lo2_fold : ∀ (r : List Int) (i j : Int), r.foldl lo2 (lo2 i j) = lo2 i (r.foldl lo2 j)
  | [], i, j => rfl
  | x :: r, i, j => by rw [List.foldl_cons, List.foldl_cons, lo2_assoc, lo2_fold r i]
theorem hi2_fold : ∀ (r : List Int) (i j : Int), r.foldl hi2 (hi2 i j) = hi2 i (r.foldl hi2 j)
  | [], i, j => rfl
  | x :: r, i, j => by rw [List.foldl_cons, List.foldl_cons, hi2_assoc, hi2_fold r i]
theorem lo2_comm (i j : Int) : lo2 i j = lo2 j i := by unfold lo2; repeat' split <;> (try omega)
theorem hi2_comm (i j : Int) : hi2 i j = hi2 j i := by unfold hi2; repeat' split <;> (try omega)
theorem mn_app {a b : List Int} (ha : a ≠ []) (hb : b ≠ []) : mn (a ++ b) = lo2 (mn a) (mn b) := by
  cases a with
  | nil => exact absurd rfl ha
  | cons i r =>
    cases b with
    | nil => exact absurd rfl hb
    | cons j s =>
      show (r ++ j :: s).foldl lo2 i = lo2 (r.foldl lo2 i) (s.foldl lo2 j)
      rw [List.foldl_append, List.foldl_cons, lo2_fold]
theorem mx_app {a b : List Int} (ha : a ≠ []) (hb : b ≠ []) : mx (a ++ b) = hi2 (mx a) (mx b) := by
  cases a with
  | nil => exact absurd rfl ha
  | cons i r =>
    cases b with
    | nil => exact absurd rfl hb
    | cons j s =>
      show (r ++ j :: s).foldl hi2 i = hi2 (r.foldl hi2 i) (s.foldl hi2 j)
      rw [List.foldl_append, List.foldl_cons, hi2_fold]
/-- a loop by what holds ahead of its i-th turn -/
theorem forL_inv {tg : Tg} {bod : Z → R Z Fl} {os : Os} (P : Nat → List Ent → Prop) (xs : List D) (env : List Ent) (h0 : P 0 env)
    (h : ∀ (i : Nat) (hi : i < xs.length) (env : List Ent), P i env → ∃ env' f env2, setT tg xs[i] env = some env' ∧ bod ⟨env', os⟩ = .ok f ⟨env2, os⟩ ∧ (∀ d fr, f ≠ .ret d fr) ∧ P (i + 1) env2) :
    ∃ env2, forL tg bod [] xs ⟨env, os⟩ = .ok .next ⟨env2, os⟩ ∧ P xs.length env2 := by
  have go : ∀ (n i : Nat) (env : List Ent), n = xs.length - i → i ≤ xs.length → P i env → ∃ env2, forL tg bod [] (xs.drop i) ⟨env, os⟩ = .ok .next ⟨env2, os⟩ ∧ P xs.length env2 := by
    intro n
    induction n with
    | zero =>
      intro i env hn hi p
      have : i = xs.length := by omega
      subst this
      exact ⟨env, by rw [List.drop_length]; simp only [forL]; rw [if_pos still_nil], p⟩
    | succ n ih =>
      intro i env hn hi p
      have hlt : i < xs.length := by omega
      obtain ⟨env', f, env2, h1, h2, h3, h4⟩ := h i hlt env p
      obtain ⟨env3, h5, h6⟩ := ih (i + 1) env2 (by omega) (by omega) h4
      refine ⟨env3, ?_, h6⟩
      rw [List.drop_eq_getElem_cons hlt]
      simp only [forL]
      rw [if_pos still_nil, h1]
      simp only [h2, R.bind_ok]
      cases f with
      | ret d fr => exact absurd rfl (h3 d fr)
      | next => exact h5
      | cont => exact h5
  exact go xs.length 0 env (by omega) (by omega) h0
theorem still_n {os : Os} : still os [] = True := eq_true still_nil
@[simp] theorem forL_nil {tg : Tg} {bod : Z → R Z Fl} {z : Z} : forL tg bod [] [] z = .ok .next z := by
  simp only [forL]; rw [if_pos still_nil]
def goL (f : Fl) (z : Z) (r : Z → R Z Fl) : R Z Fl := match f with
  | .ret d fr => .ok (.ret d fr) z
  | _ => r z
@[simp ↓] theorem goL_n {r : Z → R Z Fl} {z : Z} : goL .next z r = r z := rfl
@[simp ↓] theorem goL_c {r : Z → R Z Fl} {z : Z} : goL .cont z r = r z := rfl
@[simp ↓] theorem goL_r {d : D} {fr : Bool} {r : Z → R Z Fl} {z : Z} : goL (.ret d fr) z r = .ok (.ret d fr) z := rfl
/-- one turn -/
theorem forL_cons {tg : Tg} {bod : Z → R Z Fl} {x : D} {xs : List D} {z : Z} {env' : List Ent} (h : setT tg x z.env = some env') : forL tg bod [] (x :: xs) z = (bod ⟨env', z.os⟩).bind fun f z' => goL f z' fun z' => forL tg bod [] xs z' := by
  simp only [forL]; rw [if_pos still_nil, h]; rfl
@[simp] theorem forL_nm {i : Nat} {bod : Z → R Z Fl} {x : D} {xs : List D} {z : Z} : forL (.nm i) bod [] (x :: xs) z = (bod ⟨z.env.set i (.val x false), z.os⟩).bind fun f z' => goL f z' fun z' => forL (.nm i) bod [] xs z' :=
  forL_cons (by simp only [setT])
theorem src_range2 {os : Os} {a b : Int} (h : Rg2 a b) : srcOf os .range [.int a, .int b] = some ((List.range (b - a).toNat).map fun i : Nat => D.int (a + i)) := by
  simp only [srcOf]
  rw [if_pos h]
theorem big_succ {z : Int} (h : Builtin.Int.intBits z ≤ 1048576) : Big (z + 1) := by
  have hb : z.natAbs.log2 ≤ 1048576 := by
    unfold Builtin.Int.intBits at h
    split at h
    · rename_i q
      have : z = 0 := by simpa using q
      subst this
      decide
    · omega
  have h1 : (z + 1).natAbs ≤ z.natAbs + 1 := by omega
  have h2 : (z.natAbs + 1).log2 < z.natAbs.log2 + 2 := by
    refine (Nat.log2_lt (by omega)).mpr ?_
    have a : z.natAbs < 2 ^ (z.natAbs.log2 + 1) := Nat.lt_log2_self
    have b : 2 ^ (z.natAbs.log2 + 2) = 2 ^ (z.natAbs.log2 + 1) * 2 := Nat.pow_succ ..
    omega
  unfold Big
  have := log2_mono h1
  omega
theorem bits_getD {ns : List Int} (h : ∀ z ∈ ns, Builtin.Int.intBits z ≤ 1048576) (n : Nat) : Builtin.Int.intBits (ns.getD n 0) ≤ 1048576 := by
  by_cases hn : n < ns.length
  · rw [List.getD_eq_getElem?_getD, List.getElem?_eq_getElem hn]; exact h _ (List.getElem_mem hn)
  · rw [List.getD_eq_getElem?_getD, List.getElem?_eq_none (by omega)]; decide
end
end Vi

namespace Vi
open PySem L2
noncomputable section
open Classical

/-! ### the plain side: searches, comprehensions with a test, texts -/
/-- a loop that ends at the first bad one -/
theorem forL_search {tg : Tg} {bod : Z → R Z Fl} {os : Os} {P : List Ent → Prop} {bad : D → Bool} {d : D} {fr : Bool} : ∀ (xs : List D) (env : List Ent), P env →
    (∀ x ∈ xs, bad x = false → ∀ env, P env → ∃ env' f env2, setT tg x env = some env' ∧ bod ⟨env', os⟩ = .ok f ⟨env2, os⟩ ∧ (∀ d fr, f ≠ .ret d fr) ∧ P env2) →
    (∀ x ∈ xs, bad x = true → ∀ env, P env → ∃ env' env2, setT tg x env = some env' ∧ bod ⟨env', os⟩ = .ok (.ret d fr) ⟨env2, os⟩) →
    ∃ env2, forL tg bod [] xs ⟨env, os⟩ = .ok (if xs.any bad = true then .ret d fr else .next) ⟨env2, os⟩ ∧ (xs.any bad = false → P env2)
  | [], env, p, _, _ => ⟨env, by simp, fun _ => p⟩
  | x :: xs, env, p, h1, h2 => by
    cases hb : bad x with
    | true =>
      obtain ⟨env', env2, e1, e2⟩ := h2 x (by simp) hb env p
      refine ⟨env2, ?_, fun q => by simp [hb] at q⟩
      rw [forL_cons e1]
      simp only [e2, R.bind_ok, goL, List.any_cons, hb, Bool.true_or, if_true]
    | false =>
      obtain ⟨env', f, env2, e1, e2, e3, e4⟩ := h1 x (by simp) hb env p
      obtain ⟨env3, e5, e6⟩ := forL_search xs env2 e4 (fun y hy => h1 y (List.mem_cons_of_mem _ hy)) fun y hy => h2 y (List.mem_cons_of_mem _ hy)
      refine ⟨env3, ?_, fun q => e6 (by simpa [hb] using q)⟩
      rw [forL_cons e1]
      simp only [e2, R.bind_ok, List.any_cons, hb, Bool.false_or]
      cases f with
      | ret d fr => exact absurd rfl (e3 d fr)
      | next => exact e5
      | cont => exact e5
theorem compL_if {i : Nat} {cf : CF} {c elt : E} {os : Os} {t : D → Bool} {f : D → D} : ∀ (xs acc : List D) (env : List Ent), acc.length + xs.length < 16777216 → env[i]? = some .no →
    (∀ x ∈ xs, ∃ fr, evalE cf c ⟨env.set i (.val x false), os⟩ = .ok (.bl (t x), fr) ⟨env.set i (.val x false), os⟩) →
    (∀ x ∈ xs, t x = true → ∃ fr, evalE cf elt ⟨env.set i (.val x false), os⟩ = .ok (f x, fr) ⟨env.set i (.val x false), os⟩) →
    compL (.nm i) (eltIf (evalE cf c) (evalE cf elt)) [] xs acc ⟨env, os⟩ = .ok (acc ++ (xs.filter t).map f) ⟨env, os⟩
  | [], acc, env, _, _, _, _ => by
    simp only [compL]
    rw [if_pos still_nil]; simp
  | x :: xs, acc, env, hl, hn, hc, h => by
    have hi : i < env.length := (List.getElem?_eq_some_iff.mp hn).1
    have hw : wipeE (env.set i (.val x false)) (Tg.slots (.nm i)) = env := by
      simp only [Tg.slots, wipeE, List.set_set]
      apply List.ext_getElem?
      intro j
      by_cases hj : i = j
      · subst hj; rw [List.getElem?_set_self hi, hn]
      · rw [List.getElem?_set_ne hj]
    obtain ⟨fr, ec⟩ := hc x (by simp)
    simp only [List.length_cons] at hl
    cases ht : t x with
    | true =>
      obtain ⟨fr2, e⟩ := h x (by simp) ht
      have ih := compL_if xs (acc ++ [f x]) env (by simp only [List.length_append, List.length_singleton]; omega) hn (fun y hy => hc y (List.mem_cons_of_mem _ hy)) fun y hy => h y (List.mem_cons_of_mem _ hy)
      have ev : eltIf (evalE cf c) (evalE cf elt) ⟨env.set i (.val x false), os⟩ = .ok (some (f x)) ⟨env.set i (.val x false), os⟩ := by
        simp only [eltIf, ec, ht, R.bind_ok, e]
      simp only [compL]
      rw [if_pos still_nil]
      simp only [setT, ev]
      rw [if_pos (show acc.length < sizeLine from by unfold sizeLine; omega), hw, ih]
      simp [ht]
    | false =>
      have ih := compL_if xs acc env (by omega) hn (fun y hy => hc y (List.mem_cons_of_mem _ hy)) fun y hy => h y (List.mem_cons_of_mem _ hy)
      have ev : eltIf (evalE cf c) (evalE cf elt) ⟨env.set i (.val x false), os⟩ = .ok none ⟨env.set i (.val x false), os⟩ := by
        simp only [eltIf, ec, ht, R.bind_ok]
      simp only [compL]
      rw [if_pos still_nil]
      simp only [setT, ev]
      rw [hw, ih]
      simp [ht]
theorem compK_if {i : Nat} {cf : CF} {c elt : E} {k : ItK} {ds xs : List D} {z : Z} {t : D → Bool} {f : D → D} (h1 : srcOf z.os k ds = some xs) (h2 : boxesOf z.os ds = []) (hl : xs.length < 16777216) (hi : i < z.env.length)
    (hc : ∀ x ∈ xs, ∃ fr, evalE cf c ⟨z.env.set i (.val x false), z.os⟩ = .ok (.bl (t x), fr) ⟨z.env.set i (.val x false), z.os⟩)
    (h : ∀ x ∈ xs, t x = true → ∃ fr, evalE cf elt ⟨z.env.set i (.val x false), z.os⟩ = .ok (f x, fr) ⟨z.env.set i (.val x false), z.os⟩) :
    compK (.nm i) k (evalE cf c) (evalE cf elt) ds z = .ok (.lst ((xs.filter t).map f), true) ⟨backE z.env (z.env.set i .no) [i], z.os⟩ := by
  unfold compK
  rw [h1, h2]
  simp only [compZ, Tg.slots, wipeE]
  rw [compL_if (t := t) (f := f) xs [] (z.env.set i .no) (by simpa using hl) (by rw [List.getElem?_set_self hi]) (fun x hx => by
    obtain ⟨fr, e⟩ := hc x hx
    exact ⟨fr, by rw [List.set_set]; exact e⟩) fun x hx ht => by
    obtain ⟨fr, e⟩ := h x hx ht
    exact ⟨fr, by rw [List.set_set]; exact e⟩]
  simp
/-! texts -/
@[simp] theorem v_str {os : Os} {s : Str} : srcOf os .val [.str s] = some (signs s) := rfl
@[simp] theorem bx_s {os : Os} {l : Str} : boxesOf os [.str l] = [] := rfl
theorem signs_len (s : Str) : (signs s).length = s.length := by simp [signs, Str.length]
@[simp] theorem f_lens {os : Os} {s : Str} (h : s.length ≤ 16777216) : fnD .len os [.str s] = some (.int s.length, false) := by
  simp only [fnD]; rw [if_pos (show s.length ≤ sizeLine from h)]
@[simp] theorem n_adds {os : Os} {s t : Str} (h : s.length + t.length ≤ 16777216) : binD .add os (.str s) (.str t) = some (.str (s ++ t), false) := by
  simp only [binD]; rw [if_pos (show s.length + t.length ≤ sizeLine from h)]
theorem len_app (s t : Str) : (s ++ t).length = s.length + t.length := by
  show (s.cps ++ t.cps).size = s.cps.size + t.cps.size
  exact Array.size_append
/-- the signs from .. to .. -/
def cutS (s : Str) (lo hi : Option Int) : Str := ⟨(cutD s.cps.toList lo hi).toArray⟩
theorem cutS_len (s : Str) (lo hi : Option Int) : (cutS s lo hi).length ≤ s.length := by
  have := cutD_len (l := s.cps.toList) (lo := lo) (hi := hi)
  simpa [cutS, Str.length] using this
@[simp] theorem y_sls {os : Os} {s : Str} {lo hi : Option Int} (h : s.length ≤ 16777216) : slD os (.str s) lo hi = some (.str (cutS s lo hi), false) := by
  simp only [slD]; rw [if_pos (show s.length ≤ sizeLine from h)]; rfl
/-- the i-th sign -/
theorem ix_str' {os : Os} {s : Str} {k : Int} (h : s.length ≤ 16777216) (h0 : 0 ≤ k) (h1 : k < s.length) : ∃ c, ixD os (.str s) (.int k) = some (.str ⟨#[c]⟩) := by
  obtain ⟨j, rfl⟩ : ∃ j : Nat, k = j := ⟨k.toNat, by omega⟩
  have hj : j < s.cps.toList.length := by simpa [Str.length] using h1
  refine ⟨s.cps.toList[j], ?_⟩
  simp only [ixD]
  rw [if_pos (show s.length ≤ sizeLine from h), atI_nat hj]; rfl
@[simp] theorem q_ins {os : Os} {s t : Str} : cmpD .isin os (.str s) (.str t) = some (hasS t s) := rfl
@[simp] theorem q_nins {os : Os} {s t : Str} : cmpD .notin os (.str s) (.str t) = some (!hasS t s) := rfl
/-! lists of truths -/
theorem deps_bls : ∀ l : List Bool, deps (l.map D.bl) = some 0
  | [] => rfl
  | i :: l => by
    show (match dep (.bl i), deps (l.map D.bl) with | some a, some b => some (max a b) | _, _ => none) = _
    rw [deps_bls l]; rfl
theorem eqDs_bls : ∀ l m : List Bool, eqDs (l.map D.bl) (m.map D.bl) = decide (l = m)
  | [], [] => by simp [eqDs]
  | [], _ :: _ => by simp [eqDs]
  | _ :: _, [] => by simp [eqDs]
  | i :: l, j :: m => by
    simp only [List.map_cons, eqDs, eqD, eqDs_bls l m]
    by_cases h1 : i = j <;> by_cases h2 : l = m <;> simp [h1, h2]
theorem q_eqbl {os : Os} {l m : List Bool} : cmpD .eq os (.lst (l.map D.bl)) (.lst (m.map D.bl)) = some (decide (l = m)) := by
  simp only [cmpD, snap, dep, eqD, deps_bls, Option.map_some, eqDs_bls]
  rw [if_pos ⟨by decide, by decide⟩]
theorem q_nebl {os : Os} {l m : List Bool} : cmpD .ne os (.lst (l.map D.bl)) (.lst (m.map D.bl)) = some (!decide (l = m)) := by
  simp only [cmpD, snap, dep, eqD, deps_bls, Option.map_some, eqDs_bls]
  rw [if_pos ⟨by decide, by decide⟩]
/-! a list of texts and the empty list -/
theorem deps_strs : ∀ l : List Str, deps (l.map D.str) = some 0
  | [] => rfl
  | i :: l => by
    show (match dep (.str i), deps (l.map D.str) with | some a, some b => some (max a b) | _, _ => none) = _
    rw [deps_strs l]; rfl
theorem q_eqsn {os : Os} {l : List Str} : cmpD .eq os (.lst (l.map D.str)) (.lst []) = some l.isEmpty := by
  simp only [cmpD, snap, dep, eqD, deps_strs, Option.map_some, deps]
  rw [if_pos ⟨by decide, by decide⟩]
  cases l <;> simp [eqDs]
theorem q_nesn {os : Os} {l : List Str} : cmpD .ne os (.lst (l.map D.str)) (.lst []) = some (!l.isEmpty) := by
  simp only [cmpD, snap, dep, eqD, deps_strs, Option.map_some, deps]
  rw [if_pos ⟨by decide, by decide⟩]
  cases l <;> simp [eqDs]
@[simp] theorem q_nn {os : Os} : cmpD .ne os (.lst []) (.lst []) = some false := by
  simp only [cmpD, snap, dep, eqD, deps, Option.map_some, eqDs]
  rw [if_pos ⟨by decide, by decide⟩]; rfl
@[simp] theorem q_ee {os : Os} : cmpD .eq os (.lst []) (.lst []) = some true := by
  simp only [cmpD, snap, dep, eqD, deps, Option.map_some, eqDs]
  rw [if_pos ⟨by decide, by decide⟩]
theorem strsO_strs : ∀ l : List Str, strsO (l.map D.str) = some l
  | [] => rfl
  | i :: l => by simp [strsO, strsO_strs l]
theorem meth_join {os : Os} {a : Str} {l : List Str} (h : JoinSz a l) : methD .join os (.str a) [.lst (l.map D.str)] = some (.str (Txt.join a l), false) := by
  simp only [methD, seqO, rdL, Option.bind_some, strsO_strs]
  rw [if_pos h]
theorem join_len (a : Str) (l : List Str) : (Txt.join a l).length ≤ (l.map (·.length)).sum + l.length * a.length := by
  rw [show Txt.join a l = Str.join a l from TL.join_eq a l]
  exact StrLaws.join_length_le a l
end
end Vi

namespace Vi
open PySem L2
def top (i : Nat) : Stmt := PySem.Challenge.pw_brooktally_k02_numbers_as_texts.main.body.getD i (.Pass ⟨0, 0, 0, 0⟩)
/-! number_text(number) -/
def ir_number_text : List S := [.ret (.fn .str [.b 0])]
abbrev sl_number_text : List Str := ["number"]
def di_number_text : DI := ⟨"number_text", top 3, sl_number_text, ["number"], ⟨1, 1, ir_number_text⟩⟩
/-! number_of(word) -/
def ir_number_of_b1 : List S := [.ifS (.cmp .notin (.b 2) (.c (.str "0123456789"))) [.ret (.c .non)] []]
def ir_number_of : List S := [.set (.nm 1) (.v 0),
  .ifS (.cmp .eq (.sl (.b 0) [] [.c (.int 1)]) (.c (.str "-"))) [.set (.nm 1) (.sl (.b 0) [.c (.int 1)] [])] [],
  .ifS (.or (.cmp .eq (.b 1) (.c (.str ""))) (.cmp .gt (.fn .len [.b 0]) (.c (.int 60)))) [.ret (.c .non)] [],
  .for (.nm 2) .val [.v 1] ir_number_of_b1,
  .ifS (.and (.cmp .eq (.ix (.b 1) (.c (.int 0))) (.c (.str "0"))) (.cmp .ne (.b 0) (.c (.str "0")))) [.ret (.c .non)] [],
  .ret (.fn .int [.b 0])]
abbrev sl_number_of : List Str := ["word", "body", "sign"]
def di_number_of : DI := ⟨"number_of", top 4, sl_number_of, ["word"], ⟨1, 3, ir_number_of⟩⟩
/-! _law_at(_law_script, _law_k) -/
def ir_law_at : List S := [.ifS (.cmp .lt (.b 1) (.fn .len [.b 0])) [.ret (.ix (.b 0) (.b 1))] [],
  .ret (.c (.int 0))]
abbrev sl_law_at : List Str := ["_law_script", "_law_k"]
def di_law_at : DI := ⟨"_law_at", top 6, sl_law_at, ["_law_script", "_law_k"], ⟨2, 2, ir_law_at⟩⟩
/-! _law_whole(_law_thing) -/
def ir_law_whole : List S := [.ret (.and (.isi (.b 0) [.int]) (.not (.isi (.b 0) [.bool])))]
abbrev sl_law_whole : List Str := ["_law_thing"]
def di_law_whole : DI := ⟨"_law_whole", top 7, sl_law_whole, ["_law_thing"], ⟨1, 1, ir_law_whole⟩⟩
/-! _law_sign(_law_cell) -/
def ir_law_sign : List S := [.set (.nm 1) (.c (.str " !\"#$&'()*+,-./0123456789:;<=>?@ABCDEFGHIJKLMNOPQRSTUVWXYZ[\\]^_`{|}~\n	")),
  .ret (.ix (.b 1) (.bin .mod (.b 0) (.fn .len [.b 1])))]
abbrev sl_law_sign : List Str := ["_law_cell", "_law_signs"]
def di_law_sign : DI := ⟨"_law_sign", top 8, sl_law_sign, ["_law_cell"], ⟨1, 2, ir_law_sign⟩⟩
/-! _law_number_of(_law_word) -/
def ir_law_number_of_e1 : E := .v 2
def ir_law_number_of_c2 : E := .cmp .notin (.b 2) (.c (.str "0123456789"))
def ir_law_number_of : List S := [.set (.nm 1) (.ite (.cmp .eq (.sl (.b 0) [] [.c (.int 1)]) (.c (.str "-"))) (.sl (.b 0) [.c (.int 1)] []) (.v 0)),
  .ifS (.or (.cmp .gt (.fn .len [.b 0]) (.c (.int 60))) (.or (.cmp .eq (.b 1) (.c (.str ""))) (.cmp .ne (.comp ir_law_number_of_e1 (.nm 2) .val [.b 1] [ir_law_number_of_c2]) (.lst [])))) [.ret (.c .non)] [],
  .ifS (.and (.cmp .eq (.ix (.b 1) (.c (.int 0))) (.c (.str "0"))) (.cmp .ne (.b 0) (.c (.str "0")))) [.ret (.c .non)] [],
  .ret (.fn .int [.b 0])]
abbrev sl_law_number_of : List Str := ["_law_word", "_law_body", "_law_sign_here"]
def di_law_number_of : DI := ⟨"_law_number_of", top 9, sl_law_number_of, ["_law_word"], ⟨1, 3, ir_law_number_of⟩⟩
/-! _law_figures(_law_number) -/
def ir_law_figures_w1 : E := .cmp .gt (.b 1) (.c (.int 0))
def ir_law_figures_b2 : List S := [.set (.nm 2) (.bin .add (.ix (.c (.str "0123456789")) (.bin .mod (.b 1) (.c (.int 10)))) (.b 2)), .set (.nm 1) (.bin .fdiv (.b 1) (.c (.int 10)))]
def ir_law_figures : List S := [.ifS (.cmp .eq (.b 0) (.c (.int 0))) [.ret (.c (.str "0"))] [],
  .set (.nm 1) (.fn .abs [.b 0]),
  .set (.nm 2) (.c (.str "")),
  .whl ir_law_figures_w1 ir_law_figures_b2,
  .ret (.bin .add (.bin .mul (.c (.str "-")) (.fn .int [.cmp .lt (.b 0) (.c (.int 0))])) (.b 2))]
abbrev sl_law_figures : List Str := ["_law_number", "_law_left", "_law_text"]
def di_law_figures : DI := ⟨"_law_figures", top 10, sl_law_figures, ["_law_number"], ⟨1, 3, ir_law_figures⟩⟩
/-! _law_bent(_law_text, _law_cell) -/
def ir_law_bent : List S := [.set (.nm 2) (.bin .mod (.bin .fdiv (.b 1) (.c (.int 8))) (.bin .add (.fn .len [.b 0]) (.c (.int 1)))),
  .set (.nm 3) (.call 4 [.bin .fdiv (.b 1) (.c (.int 100))]),
  .ifS (.cmp .eq (.bin .mod (.b 1) (.c (.int 8))) (.c (.int 0))) [.ret (.bin .add (.bin .add (.sl (.b 0) [] [.b 2]) (.b 3)) (.sl (.b 0) [.b 2] []))] [],
  .ifS (.cmp .eq (.bin .mod (.b 1) (.c (.int 8))) (.c (.int 1))) [.ret (.bin .add (.bin .add (.sl (.b 0) [] [.b 2]) (.b 3)) (.sl (.b 0) [.bin .add (.b 2) (.c (.int 1))] []))] [],
  .ifS (.cmp .eq (.bin .mod (.b 1) (.c (.int 8))) (.c (.int 2))) [.ret (.bin .add (.sl (.b 0) [] [.b 2]) (.sl (.b 0) [.bin .add (.b 2) (.c (.int 1))] []))] [],
  .ifS (.cmp .eq (.bin .mod (.b 1) (.c (.int 8))) (.c (.int 3))) [.ret (.bin .add (.bin .mul (.c (.str "0")) (.bin .add (.c (.int 1)) (.bin .mod (.bin .fdiv (.b 1) (.c (.int 8))) (.c (.int 3))))) (.b 0))] [],
  .ifS (.cmp .eq (.bin .mod (.b 1) (.c (.int 8))) (.c (.int 4))) [.ret (.bin .add (.bin .mul (.c (.str "-")) (.bin .mod (.bin .fdiv (.b 1) (.c (.int 8))) (.c (.int 2)))) (.bin .mul (.c (.str "123456789")) (.c (.int 7))))] [],
  .ifS (.cmp .eq (.bin .mod (.b 1) (.c (.int 8))) (.c (.int 5))) [.ret (.sl (.bin .add (.bin .mul (.c (.str "-")) (.bin .mod (.bin .fdiv (.b 1) (.c (.int 8))) (.c (.int 2)))) (.bin .mul (.c (.str "987654321")) (.c (.int 7)))) [] [.bin .add (.c (.int 57)) (.bin .mod (.bin .fdiv (.b 1) (.c (.int 16))) (.c (.int 6)))])] [],
  .ifS (.cmp .eq (.bin .mod (.b 1) (.c (.int 8))) (.c (.int 6))) [.ret (.ix (.lst [.c (.str ""), .c (.str "-"), .c (.str "-0"), .c (.str "--1"), .c (.str "+1"), .c (.str "0"), .c (.str "00"), .c (.str "1-")]) (.bin .mod (.bin .fdiv (.b 1) (.c (.int 8))) (.c (.int 8))))] [],
  .ret (.v 0)]
abbrev sl_law_bent : List Str := ["_law_text", "_law_cell", "_law_at_here", "_law_sign_here"]
def di_law_bent : DI := ⟨"_law_bent", top 11, sl_law_bent, ["_law_text", "_law_cell"], ⟨2, 4, ir_law_bent⟩⟩
/-! law(_law_script) -/
def ir_law_b1 : List S := [.set (.nm 2) (.bin .add (.ix (.b 0) (.b 1)) (.bin .mul (.c (.int 7919)) (.b 1))), .set (.nm 3) (.ix (.lst [.bin .sub (.bin .mod (.bin .fdiv (.b 2) (.c (.int 3))) (.c (.int 100))) (.c (.int 50)), .bin .mod (.bin .mul (.bin .fdiv (.b 2) (.c (.int 3))) (.bin .pow (.c (.int 48271)) (.c (.int 11)))) (.bin .pow (.c (.int 10)) (.c (.int 59))), .c (.int 0)]) (.bin .mod (.b 2) (.c (.int 3)))), .ifS (.cmp .eq (.bin .mod (.b 2) (.c (.int 3))) (.c (.int 2))) [.set (.nm 3) (.bin .sub (.c (.int 0)) (.bin .mod (.bin .mul (.bin .fdiv (.b 2) (.c (.int 3))) (.bin .pow (.c (.int 69621)) (.c (.int 9)))) (.bin .pow (.c (.int 10)) (.c (.int 40)))))] [], .set (.nm 4) (.call 0 [.v 3]), .ifS (.or (.not (.isi (.b 4) [.str])) (.cmp .ne (.b 4) (.call 6 [.v 3]))) [.ret (.c (.bl false))] [], .set (.nm 5) (.call 1 [.v 4]), .ifS (.or (.not (.call 3 [.v 5])) (.cmp .ne (.b 5) (.b 3))) [.ret (.c (.bl false))] [], .set (.nm 6) (.call 7 [.v 4, .bin .add (.bin .fdiv (.b 2) (.c (.int 3))) (.call 2 [.v 0, .bin .add (.b 1) (.c (.int 1))])]), .set (.nm 7) (.call 5 [.v 6]), .set (.nm 5) (.call 1 [.v 6]), .ifS (.or (.and (.cmp .is (.b 7) (.c .non)) (.cmp .isnot (.b 5) (.c .non))) (.and (.cmp .isnot (.b 7) (.c .non)) (.or (.not (.call 3 [.v 5])) (.cmp .ne (.b 5) (.b 7))))) [.ret (.c (.bl false))] []]
def ir_law : List S := [.for (.nm 1) .range [.fn .len [.b 0]] ir_law_b1,
  .ret (.c (.bl true))]
abbrev sl_law : List Str := ["_law_script", "_law_k", "_law_cell", "_law_number", "_law_text", "_law_found", "_law_line", "_law_due"]
def di_law : DI := ⟨"law", top 12, sl_law, ["_law_script"], ⟨1, 8, ir_law⟩⟩
def dis : List DI := [di_number_text, di_number_of, di_law_at, di_law_whole, di_law_sign, di_law_number_of, di_law_figures, di_law_bent, di_law]
def fns : List (Str × Nat × Nat) := [("number_text", 0, 1), ("number_of", 1, 1), ("_law_at", 2, 2), ("_law_whole", 3, 1), ("_law_sign", 4, 1), ("_law_number_of", 5, 1), ("_law_figures", 6, 1), ("_law_bent", 7, 2), ("law", 8, 1)]
def free : List Str := ["abs", "bool", "int", "isinstance", "len", "range", "str"]
def con : List (Str × D) := [("FIGURES", (.str "0123456789")), ("MOST_SIGNS", (.int 60))]
theorem dis_ok : dis.all (fun di => di.ok fns con free) = true := by decide +kernel
theorem fns_ok : fnsB dis fns = true := by decide +kernel
def fuel : Nat := 1000000
noncomputable def T : Tb := ⟨dis.map (·.d), fun _ _ => none, fun _ => none, fuel⟩
theorem cl_number_text {k : Nat} {os : Os} {ds : List D} (h : ds.length = 1) : call T (k + 1) 0 ds os = outF (execB (T.cf k) ir_number_text ⟨envOf 1 ds, os⟩) := call_eq (d := di_number_text.d) rfl h
theorem cl_number_of {k : Nat} {os : Os} {ds : List D} (h : ds.length = 1) : call T (k + 1) 1 ds os = outF (execB (T.cf k) ir_number_of ⟨envOf 3 ds, os⟩) := call_eq (d := di_number_of.d) rfl h
theorem cl_law_at {k : Nat} {os : Os} {ds : List D} (h : ds.length = 2) : call T (k + 1) 2 ds os = outF (execB (T.cf k) ir_law_at ⟨envOf 2 ds, os⟩) := call_eq (d := di_law_at.d) rfl h
theorem cl_law_whole {k : Nat} {os : Os} {ds : List D} (h : ds.length = 1) : call T (k + 1) 3 ds os = outF (execB (T.cf k) ir_law_whole ⟨envOf 1 ds, os⟩) := call_eq (d := di_law_whole.d) rfl h
theorem cl_law_sign {k : Nat} {os : Os} {ds : List D} (h : ds.length = 1) : call T (k + 1) 4 ds os = outF (execB (T.cf k) ir_law_sign ⟨envOf 2 ds, os⟩) := call_eq (d := di_law_sign.d) rfl h
theorem cl_law_number_of {k : Nat} {os : Os} {ds : List D} (h : ds.length = 1) : call T (k + 1) 5 ds os = outF (execB (T.cf k) ir_law_number_of ⟨envOf 3 ds, os⟩) := call_eq (d := di_law_number_of.d) rfl h
theorem cl_law_figures {k : Nat} {os : Os} {ds : List D} (h : ds.length = 1) : call T (k + 1) 6 ds os = outF (execB (T.cf k) ir_law_figures ⟨envOf 3 ds, os⟩) := call_eq (d := di_law_figures.d) rfl h
theorem cl_law_bent {k : Nat} {os : Os} {ds : List D} (h : ds.length = 2) : call T (k + 1) 7 ds os = outF (execB (T.cf k) ir_law_bent ⟨envOf 4 ds, os⟩) := call_eq (d := di_law_bent.d) rfl h
theorem cl_law {k : Nat} {os : Os} {ds : List D} (h : ds.length = 1) : call T (k + 1) 8 ds os = outF (execB (T.cf k) ir_law ⟨envOf 8 ds, os⟩) := call_eq (d := di_law.d) rfl h
end Vi

namespace Vi
open PySem L2
noncomputable section
open Classical
def FIG : Str := "0123456789"
theorem fig_cps : FIG.cps.toList = [48, 49, 50, 51, 52, 53, 54, 55, 56, 57] := by decide +kernel
theorem has_fig (c : Nat) : hasS FIG ⟨#[c]⟩ = (decide (48 ≤ c) && decide (c ≤ 57)) := by
  have h : hasS FIG ⟨#[c]⟩ = decide (c ∈ FIG.cps.toList) := StrLaws.found_one FIG c
  rw [h, fig_cps]
  by_cases h1 : 48 ≤ c <;> by_cases h2 : c ≤ 57 <;> simp [h1, h2] <;> omega
def badF : D → Bool
  | .str c => !hasS FIG c
  | _ => false
theorem badF_dig {cs : List Nat} (h : (cs.map fun c => D.str ⟨#[c]⟩).any badF = false) : ∀ c ∈ cs, 48 ≤ c ∧ c ≤ 57 := by
  intro c hc
  have := List.any_eq_false.mp h (.str ⟨#[c]⟩) (List.mem_map.mpr ⟨c, hc, rfl⟩)
  simp only [badF, has_fig] at this
  simpa using this
theorem str_cps (n : Int) : (Str.ofString (toString n)).cps.toList = (if n < 0 then [45] else []) ++ TL.numL n.natAbs := by
  cases n with
  | ofNat m =>
    have : ¬ (Int.ofNat m < 0) := by simp
    rw [if_neg this]
    exact TL.tl_num m
  | negSucc m =>
    have h : Int.negSucc m < 0 := Int.negSucc_lt_zero m
    rw [if_pos h]
    have e : toString (Int.negSucc m) = "-" ++ toString ((m + 1 : Nat) : Int) := rfl
    rw [e, Str.ofString_eq_toList]
    have t := TL.tl_num (m + 1)
    have t' : (Str.ofString (toString ((m + 1 : Nat) : Int))).cps.toList = TL.numL (m + 1) := t
    rw [Str.ofString_eq_toList] at t'
    simp only [String.toList_append, List.map_append, List.toList_toArray] at t' ⊢
    rw [t']
    rfl
theorem fig_len : FIG.length = 10 := by decide +kernel
theorem fig_ix {os : Os} {j : Nat} (h : j < 10) : ixD os (.str FIG) (.int j) = some (.str ⟨#[48 + j]⟩) := by
  simp only [ixD]
  rw [if_pos (show FIG.length ≤ sizeLine from by rw [fig_len]; decide), fig_cps, atI_nat (by simpa using h)]
  have : ∀ j : Nat, (h : j < 10) → ([48, 49, 50, 51, 52, 53, 54, 55, 56, 57] : List Nat)[j]'(by simpa using h) = 48 + j := by decide
  rw [this j h]; rfl
theorem int_str {n : Int} (h : (TL.numL n.natAbs).length ≤ 600) : PySem.intText? (Str.ofString (toString n)) = some n := by
  have c := str_cps n
  by_cases hn : n < 0
  · rw [if_pos hn] at c
    have e := intText_neg (x := Str.ofString (toString n)) (cs := TL.numL n.natAbs) (by rw [c]; rfl) (TL.numL_digits _) (TL.numL_ne _) (by
      have : (Str.ofString (toString n)).length = (Str.ofString (toString n)).cps.toList.length := by simp [Str.length]
      rw [this, c]; simp; omega)
    rw [e, TL.numL_val]
    congr 1; omega
  · rw [if_neg hn] at c
    have e := intText_digits (x := Str.ofString (toString n)) (by rw [c]; exact TL.numL_digits _) (by rw [c]; exact TL.numL_ne _) (by
      have : (Str.ofString (toString n)).length = (Str.ofString (toString n)).cps.toList.length := by simp [Str.length]
      rw [this, c]; simp; omega)
    rw [e, c]
    simp only [List.nil_append, TL.numL_val]
    congr 1; omega
theorem str_ext {s t : Str} (h : s.cps.toList = t.cps.toList) : s = t := by
  cases s; cases t
  simp only [Str.mk.injEq]
  exact Array.toList_inj.mp h
theorem app_cps (s t : Str) : (s ++ t).cps.toList = s.cps.toList ++ t.cps.toList := by
  show (s.cps ++ t.cps).toList = _
  simp
abbrev figE (n : Int) (m : Nat) (t : Str) : List Ent := [.val (.int n) false, .val (.int m) false, .val (.str t) false]
theorem fig_loop {k : Nat} {n : Int} {os : Os} : ∀ (m f : Nat) (t : Str), 0 < m → (TL.numL m).length < f → t.length + (TL.numL m).length ≤ 1000 →
    ∃ t', whlL (evalE (T.cf k) ir_law_figures_w1) (execB (T.cf k) ir_law_figures_b2) f ⟨figE n m t, os⟩ = .ok .next ⟨figE n 0 t', os⟩ ∧ t'.cps.toList = TL.numL m ++ t.cps.toList := by
  intro m
  induction m using Nat.strongRecOn with
  | _ m ih =>
    intro f t hm hf hl
    obtain ⟨f, rfl⟩ : ∃ g, f = g + 1 := ⟨f - 1, by omega⟩
    have hd : m % 10 < 10 := Nat.mod_lt _ (by decide)
    have ix := fig_ix (os := os) hd
    have ec : (((m : Int) % 10)) = ((m % 10 : Nat) : Int) := by omega
    have ed : (((m : Int) / 10)) = ((m / 10 : Nat) : Int) := by omega
    obtain ⟨t1, ht1⟩ : ∃ t1 : Str, t1 = (⟨#[48 + m % 10]⟩ : Str) ++ t := ⟨_, rfl⟩
    have n1 := TL.numL_ne m
    have nl : 0 < (TL.numL m).length := List.length_pos_iff.mpr n1
    have ad : binD .add os (.str ⟨#[48 + m % 10]⟩) (.str t) = some (.str t1, false) := by
      rw [ht1]; exact n_adds (by have : (⟨#[48 + m % 10]⟩ : Str).length = 1 := rfl; omega)
    have step : whlL (evalE (T.cf k) ir_law_figures_w1) (execB (T.cf k) ir_law_figures_b2) (f + 1) ⟨figE n m t, os⟩ = whlL (evalE (T.cf k) ir_law_figures_w1) (execB (T.cf k) ir_law_figures_b2) f ⟨figE n (m / 10 : Nat) t1, os⟩ := by
      have e1 : evalE (T.cf k) ir_law_figures_w1 ⟨figE n m t, os⟩ = .ok (.bl true, false) ⟨figE n m t, os⟩ := by
        simp [ir_law_figures_w1, hm]
      have e2 : execB (T.cf k) ir_law_figures_b2 ⟨figE n m t, os⟩ = .ok .next ⟨figE n (m / 10 : Nat) t1, os⟩ := by
        rw [show ir_law_figures_b2 = [.set (.nm 2) (.bin .add (.ix (.c (.str FIG)) (.bin .mod (.b 1) (.c (.int 10)))) (.b 2)), .set (.nm 1) (.bin .fdiv (.b 1) (.c (.int 10)))] from rfl]
        rw [← ec] at ix
        generalize FIG = S at *
        simp [ix, ad]
      rw [whlL, e1, R.bind_ok]
      simp only [e2, R.bind_ok]
    rw [step]
    have t1c : t1.cps.toList = [48 + m % 10] ++ t.cps.toList := by rw [ht1, app_cps]
    by_cases h10 : m < 10
    · have m0 : m / 10 = 0 := by omega
      rw [m0]
      obtain ⟨g, rfl⟩ : ∃ g, f = g + 1 := ⟨f - 1, by omega⟩
      refine ⟨t1, ?_, ?_⟩
      · rw [whlL]
        simp [ir_law_figures_w1]
      · rw [t1c, TL.numL_lt h10, Nat.mod_eq_of_lt h10]
    · have st := TL.numL_step (n := m) (by omega)
      have sl : (TL.numL m).length = (TL.numL (m / 10)).length + 1 := by rw [st]; simp
      have tl1 : t1.length = t.length + 1 := by rw [ht1, len_app]; show 1 + t.length = _; omega
      obtain ⟨t', w1, w2⟩ := ih (m / 10) (by omega) f t1 (by omega) (by omega) (by omega)
      exact ⟨t', w1, by rw [w2, t1c, st, List.append_assoc]⟩
theorem mul_str {os : Os} {s : Str} {k : Int} (h : RepOk s k) : binD .mul os (.str s) (.int k) = some (.str (repS s k.toNat), false) := by
  simp only [binD]; rw [if_pos h]
theorem min_cps : (Str.ofString "-").cps.toList = [45] := by decide +kernel
theorem rep_min (b : Bool) : (repS (Str.ofString "-") (if b then (1 : Int) else 0).toNat).cps.toList = if b then [45] else [] := by
  cases b <;> simp [repS, min_cps]
theorem num_str_len {n : Int} (h : (TL.numL n.natAbs).length ≤ 600) : (Str.ofString (toString n)).length ≤ 601 := by
  have e : (Str.ofString (toString n)).length = (Str.ofString (toString n)).cps.toList.length := by simp [Str.length]
  rw [e, str_cps]
  split <;> simp <;> omega
theorem call_fig {k : Nat} {n : Int} {os : Os} (h : (TL.numL n.natAbs).length ≤ 600) : call T (k + 1) 6 [.int n] os = .ok (.str (Str.ofString (toString n)), false) os := by
  by_cases h0 : n = 0
  · subst h0
    have : Str.ofString (toString (0 : Int)) = Str.ofString "0" := by decide +kernel
    rw [this]
    simp [cl_law_figures, ir_law_figures]
  · have hp : 0 < n.natAbs := by omega
    have el : (Str.ofString "").length = 0 := by decide +kernel
    have ee : (Str.ofString "").cps.toList = [] := by decide +kernel
    obtain ⟨t', w1, w2⟩ := fig_loop (k := k) (n := n) (os := os) n.natAbs fuel "" hp (by unfold fuel; omega) (by rw [el]; omega)
    rw [ee, List.append_nil] at w2
    have hf : T.fuel = fuel := rfl
    have ab : (if n < 0 then -n else n) = (n.natAbs : Int) := by split <;> omega
    have i1 : fnD .int os [.bl (decide (n < 0))] = some (.int (if decide (n < 0) then 1 else 0), false) := rfl
    have rk : RepOk (Str.ofString "-") (if decide (n < 0) then (1 : Int) else 0) := by
      have l1 : (Str.ofString "-").length = 1 := by decide +kernel
      unfold RepOk
      rw [l1]
      split <;> exact ⟨by decide, by decide, by decide⟩
    have m1 := mul_str (os := os) rk
    have tl : t'.length = (TL.numL n.natAbs).length := by rw [← w2]; simp [Str.length]
    obtain ⟨p, hp2⟩ : ∃ p, p = repS (Str.ofString "-") (if decide (n < 0) then (1 : Int) else 0).toNat := ⟨_, rfl⟩
    have pc := rep_min (decide (n < 0))
    rw [← hp2] at pc m1
    have pl : p.length ≤ 1 := by
      have e : p.length = p.cps.toList.length := by simp [Str.length]
      rw [e, pc]; split <;> simp
    have a1 : binD .add os (.str p) (.str t') = some (.str (p ++ t'), false) := n_adds (by omega)
    have fin : p ++ t' = Str.ofString (toString n) := by
      refine str_ext ?_
      rw [app_cps, pc, w2, str_cps]
      by_cases hn : n < 0 <;> simp [hn]
    rw [← fin]
    unfold figE at w1
    generalize hb : (if decide (n < 0) then (1 : Int) else 0) = q at *
    simp [cl_law_figures, ir_law_figures, h0, ab, hf, w1, i1, m1, a1]
/-- what stands behind a minus -/
def bodyS (w : Str) : Str := if cutS w none (some 1) = Str.ofString "-" then cutS w (some 1) none else w
theorem body_len (w : Str) : (bodyS w).length ≤ w.length := by
  unfold bodyS
  split
  · exact cutS_len ..
  · exact Nat.le_refl _
theorem num_loop {k : Nat} {w s : Str} {os : Os} : ∃ env2, forL (.nm 2) (execB (T.cf k) ir_number_of_b1) [] (signs s) ⟨[.val (.str w) false, .val (.str s) false, .no], os⟩ = .ok (if (signs s).any badF = true then .ret .non false else .next) ⟨env2, os⟩ ∧ ((signs s).any badF = false → ∃ e, env2 = [.val (.str w) false, .val (.str s) false, e]) := by
  refine forL_search (P := fun env => ∃ e, env = [.val (.str w) false, .val (.str s) false, e]) _ _ ⟨.no, rfl⟩ ?_ ?_
  · rintro x hx hb env ⟨e, rfl⟩
    obtain ⟨c, _, rfl⟩ := List.mem_map.mp hx
    have hb' : hasS (Str.ofString "0123456789") ⟨#[c]⟩ = true := by
      have : (!hasS FIG ⟨#[c]⟩) = false := hb
      simpa [FIG] using this
    refine ⟨_, .next, [.val (.str w) false, .val (.str s) false, .val (.str ⟨#[c]⟩) false], by rw [setT_n], ?_, by simp, _, rfl⟩
    simp [ir_number_of_b1, hb']
  · rintro x hx hb env ⟨e, rfl⟩
    obtain ⟨c, _, rfl⟩ := List.mem_map.mp hx
    have hb' : hasS (Str.ofString "0123456789") ⟨#[c]⟩ = false := by
      have : (!hasS FIG ⟨#[c]⟩) = true := hb
      simpa [FIG] using this
    exact ⟨_, _, by rw [setT_n], by simp [ir_number_of_b1, hb']; rfl⟩
theorem cut1_cps (w : Str) : (cutS w none (some 1)).cps.toList = w.cps.toList.take 1 := by
  show ((cutD w.cps.toList none (some ((1 : Nat) : Int))).toArray).toList = _
  rw [cut_toL]
theorem cut2_cps (w : Str) (h : 1 ≤ w.cps.toList.length) : (cutS w (some 1) none).cps.toList = w.cps.toList.drop 1 := by
  show ((cutD w.cps.toList (some ((1 : Nat) : Int)) none).toArray).toList = _
  rw [cut_from h]
theorem nil_of {s : Str} (h : s.cps.toList = []) : s = Str.ofString "" := str_ext (by rw [h]; decide +kernel)
theorem int_body {w : Str} (h1 : bodyS w ≠ Str.ofString "") (h2 : w.length ≤ 60) (h3 : (signs (bodyS w)).any badF = false) : ∃ n, PySem.intText? w = some n := by
  have dg := badF_dig (cs := (bodyS w).cps.toList) h3
  have ne : (bodyS w).cps.toList ≠ [] := fun q => h1 (nil_of q)
  by_cases hm : cutS w none (some 1) = Str.ofString "-"
  · have e1 := congrArg (fun s : Str => s.cps.toList) hm
    simp only [cut1_cps, min_cps] at e1
    cases hw : w.cps.toList with
    | nil => rw [hw] at e1; cases e1
    | cons c r =>
      rw [hw] at e1
      simp only [List.take_succ_cons, List.take_zero, List.cons.injEq, and_true] at e1
      subst e1
      have eb : (bodyS w).cps.toList = r := by
        unfold bodyS
        rw [if_pos hm, cut2_cps w (by rw [hw]; simp), hw]; rfl
      rw [eb] at dg ne
      exact ⟨_, intText_neg hw dg ne (by omega)⟩
  · have eb : bodyS w = w := by unfold bodyS; rw [if_neg hm]
    rw [eb] at dg ne
    exact ⟨_, intText_digits dg ne (by omega)⟩
def firstS (s : Str) : Str := ⟨(s.cps.toList.take 1).toArray⟩
theorem ix0 {os : Os} {s : Str} (h : s.cps.toList ≠ []) (hl : s.length ≤ 16777216) : ixD os (.str s) (.int 0) = some (.str (firstS s)) := by
  have hp : 0 < s.cps.toList.length := List.length_pos_iff.mpr h
  simp only [ixD]
  rw [if_pos (show s.length ≤ sizeLine from hl), show (0 : Int) = ((0 : Nat) : Int) from rfl, atI_nat hp]
  unfold firstS
  have e : s.cps.toList.take 1 = [s.cps.toList[0]] := by
    rw [show (1 : Nat) = 0 + 1 from rfl, List.take_succ_eq_append_getElem hp]; simp
  rw [e]; rfl
/-- the number of a text, else nothing -/
def numD (w : Str) : D := if bodyS w = Str.ofString "" ∨ 60 < w.length then .non else if (signs (bodyS w)).any badF = true then .non else if firstS (bodyS w) = Str.ofString "0" ∧ w ≠ Str.ofString "0" then .non else .int ((PySem.intText? w).getD 0)
theorem call_number_of {k : Nat} {w : Str} {os : Os} (hw : w.length ≤ 10000) : call T (k + 1) 1 [.str w] os = .ok (numD w, false) os := by
  have y1 := y_sls (os := os) (s := w) (lo := none) (hi := some 1) (by omega)
  have y2 := y_sls (os := os) (s := w) (lo := some 1) (hi := none) (by omega)
  have fl := f_lens (os := os) (s := w) (by omega)
  obtain ⟨b, hb⟩ : ∃ b, b = bodyS w := ⟨_, rfl⟩
  have bl : b.length ≤ w.length := by rw [hb]; exact body_len w
  obtain ⟨env2, e1, e2⟩ := num_loop (k := k) (w := w) (s := b) (os := os)
  have key : execB (T.cf k) ir_number_of ⟨envOf 3 [.str w], os⟩ = execB (T.cf k) (ir_number_of.drop 2) ⟨[.val (.str w) false, .val (.str b) false, .no], os⟩ := by
    by_cases hm : cutS w none (some 1) = Str.ofString "-"
    · have : b = cutS w (some 1) none := by rw [hb]; unfold bodyS; rw [if_pos hm]
      simp [ir_number_of, y1, y2, hm, this]
    · have : b = w := by rw [hb]; unfold bodyS; rw [if_neg hm]
      simp [ir_number_of, y1, y2, hm, this]
  rw [cl_number_of rfl, key]
  unfold numD
  rw [← hb]
  by_cases h1 : b = Str.ofString ""
  · rw [if_pos (.inl h1)]
    simp [ir_number_of, h1]
  · by_cases h2 : 60 < w.length
    · rw [if_pos (.inr h2)]
      have h2' : (60 : Int) < w.length := by omega
      simp [ir_number_of, h1, fl, h2, h2']
    · rw [if_neg (by simp [h1, h2])]
      have h2' : ¬ (60 : Int) < w.length := by omega
      cases h3 : (signs b).any badF with
      | true =>
        rw [h3] at e1
        simp only [if_true] at e1 ⊢
        simp [ir_number_of, h1, fl, h2, h2', e1]
      | false =>
        obtain ⟨e, rfl⟩ := e2 h3
        rw [h3] at e1
        simp only [Bool.false_eq_true, if_false] at e1 ⊢
        have i0 := ix0 (os := os) (s := b) (fun q => h1 (nil_of q)) (by omega)
        obtain ⟨n, hn⟩ := int_body (w := w) (by rw [← hb]; exact h1) (by omega) (by rw [← hb]; exact h3)
        have fi : fnD .int os [.str w] = some (.int n, false) := by
          simp only [fnD, hn]
          rw [if_pos (by omega)]
        rw [hn]
        by_cases h4 : firstS b = Str.ofString "0"
        · by_cases h5 : w = Str.ofString "0"
          · rw [if_neg (by simp [h5])]
            subst h5
            simp [ir_number_of, h1, fl, h2, h2', e1, i0, h4, fi]
          · rw [if_pos ⟨h4, h5⟩]
            simp [ir_number_of, h1, fl, h2, h2', e1, i0, h4, h5, fi]
        · rw [if_neg (by simp [h4])]
          simp [ir_number_of, h1, fl, h2, h2', e1, i0, h4, fi]
theorem any_filter {α : Type} (p : α → Bool) (l : List α) : (l.filter p).isEmpty = !l.any p := by
  induction l with
  | nil => rfl
  | cons a l ih => cases h : p a <;> simp [h, ih]
theorem signs_strs (s : Str) (p : D → Bool) : ∃ l : List Str, ((signs s).filter p).map id = l.map D.str ∧ l.isEmpty = !(signs s).any p := by
  refine ⟨(s.cps.toList.filter fun c => p (.str ⟨#[c]⟩)).map fun c => ⟨#[c]⟩, ?_, ?_⟩
  · simp [signs, List.filter_map, Function.comp_def]
  · rw [← any_filter]
    simp [signs, List.filter_map, Function.comp_def]
theorem comp_num {k : Nat} {w s : Str} {os : Os} (hs : s.length ≤ 10000) : compK (.nm 2) .val (evalE (T.cf k) ir_law_number_of_c2) (evalE (T.cf k) ir_law_number_of_e1) [.str s] ⟨[.val (.str w) false, .val (.str s) false, .no], os⟩ = .ok (.lst (((signs s).filter badF).map id), true) ⟨[.val (.str w) false, .val (.str s) false, .no], os⟩ := by
  rw [compK_if (xs := signs s) (t := badF) (f := id) rfl rfl (by rw [signs_len]; omega) (by simp)]
  · simp
  · intro x hx
    obtain ⟨c, _, rfl⟩ := List.mem_map.mp hx
    refine ⟨false, ?_⟩
    simp [ir_law_number_of_c2, badF, FIG]
  · intro x hx _
    obtain ⟨c, _, rfl⟩ := List.mem_map.mp hx
    refine ⟨false, ?_⟩
    simp [ir_law_number_of_e1]
theorem call_lnumber_of {k : Nat} {w : Str} {os : Os} (hw : w.length ≤ 10000) : call T (k + 1) 5 [.str w] os = .ok (numD w, false) os := by
  have y1 := y_sls (os := os) (s := w) (lo := none) (hi := some 1) (by omega)
  have y2 := y_sls (os := os) (s := w) (lo := some 1) (hi := none) (by omega)
  have fl := f_lens (os := os) (s := w) (by omega)
  obtain ⟨b, hb⟩ : ∃ b, b = bodyS w := ⟨_, rfl⟩
  have bl : b.length ≤ w.length := by rw [hb]; exact body_len w
  have hc := comp_num (k := k) (w := w) (s := b) (os := os) (by omega)
  obtain ⟨l, l1, l2⟩ := signs_strs b badF
  rw [l1] at hc
  have q := q_nesn (os := os) (l := l)
  rw [l2] at q
  have key : execB (T.cf k) ir_law_number_of ⟨envOf 3 [.str w], os⟩ = execB (T.cf k) (ir_law_number_of.drop 1) ⟨[.val (.str w) false, .val (.str b) false, .no], os⟩ := by
    by_cases hm : cutS w none (some 1) = Str.ofString "-"
    · have : b = cutS w (some 1) none := by rw [hb]; unfold bodyS; rw [if_pos hm]
      simp [ir_law_number_of, y1, y2, hm, this]
    · have : b = w := by rw [hb]; unfold bodyS; rw [if_neg hm]
      simp [ir_law_number_of, y1, y2, hm, this]
  rw [cl_law_number_of rfl, key]
  unfold numD
  rw [← hb]
  generalize l.map D.str = LL at *
  by_cases h1 : b = Str.ofString ""
  · rw [if_pos (.inl h1)]
    by_cases h2 : (60 : Int) < w.length <;> simp [ir_law_number_of, h1, fl, h2]
  · by_cases h2 : 60 < w.length
    · rw [if_pos (.inr h2)]
      have h2' : (60 : Int) < w.length := by omega
      simp [ir_law_number_of, h1, fl, h2, h2']
    · rw [if_neg (by simp [h1, h2])]
      have h2' : ¬ (60 : Int) < w.length := by omega
      cases h3 : (signs b).any badF with
      | true =>
        rw [h3] at q
        simp only [if_true]
        simp [ir_law_number_of, h1, fl, h2, h2', hc, q]
      | false =>
        rw [h3] at q
        simp only [Bool.false_eq_true, if_false]
        have i0 := ix0 (os := os) (s := b) (fun q => h1 (nil_of q)) (by omega)
        obtain ⟨n, hn⟩ := int_body (w := w) (by rw [← hb]; exact h1) (by omega) (by rw [← hb]; exact h3)
        have fi : fnD .int os [.str w] = some (.int n, false) := by
          simp only [fnD, hn]
          rw [if_pos (by omega)]
        rw [hn]
        by_cases h4 : firstS b = Str.ofString "0"
        · by_cases h5 : w = Str.ofString "0"
          · rw [if_neg (by simp [h5])]
            subst h5
            simp [ir_law_number_of, h1, fl, h2, h2', hc, q, i0, h4, fi]
          · rw [if_pos ⟨h4, h5⟩]
            simp [ir_law_number_of, h1, fl, h2, h2', hc, q, i0, h4, h5, fi]
        · rw [if_neg (by simp [h4])]
          simp [ir_law_number_of, h1, fl, h2, h2', hc, q, i0, h4, fi]
def sgs : Str := " !\"#$&'()*+,-./0123456789:;<=>?@ABCDEFGHIJKLMNOPQRSTUVWXYZ[\\]^_`{|}~\n	"
theorem sgs_len : 0 < sgs.length ∧ sgs.length ≤ 1000 := by decide +kernel
theorem call_sign {k : Nat} {x : Int} {os : Os} : ∃ c, call T (k + 1) 4 [.int x] os = .ok (.str ⟨#[c]⟩, false) os := by
  obtain ⟨n0, n1⟩ := sgs_len
  have hp : (0 : Int) < sgs.length := by omega
  have q1 := Int.emod_nonneg x (show (sgs.length : Int) ≠ 0 by omega)
  have q2 := Int.emod_lt_of_pos x hp
  obtain ⟨c, hc⟩ := ix_str' (os := os) (s := sgs) (k := x % (sgs.length : Int)) (by omega) q1 q2
  refine ⟨c, ?_⟩
  have hm := bin_mod (os := os) (i := x) hp
  have hf := f_lens (os := os) (s := sgs) (by omega)
  rw [cl_law_sign rfl]
  rw [show ir_law_sign = [.set (.nm 1) (.c (.str sgs)), .ret (.ix (.b 1) (.bin .mod (.b 0) (.fn .len [.b 1])))] from rfl]
  generalize sgs = S at *
  simp [hf, hm, hc]
theorem call_cell {k n : Nat} {ns : List Int} {os : Os} : call T (k + 1) 2 [.lst (nums ns), .int n] os = .ok (.int (ns.getD n 0), false) os := by
  by_cases h : n < ns.length
  · have : atI (ns.map D.int) (n : Int) = some (.int ns[n]) := by rw [atI_map, atI_nat h]; rfl
    simp [cl_law_at, ir_law_at, h, this]
  · simp [cl_law_at, ir_law_at, h]
theorem rep_len (s : Str) (n : Nat) : (repS s n).length = n * s.length := by
  have e : (repS s n).length = (List.replicate n s.cps.toList).flatten.length := by simp [repS, Str.length]
  rw [e]
  simp [Str.length]

theorem numL_head : ∀ n : Nat, 0 < n → ∃ c r, TL.numL n = c :: r ∧ 49 ≤ c ∧ c ≤ 57 := by
  intro n
  induction n using Nat.strongRecOn with
  | _ n ih =>
    intro h
    by_cases h10 : n < 10
    · exact ⟨48 + n, [], TL.numL_lt h10, by omega, by omega⟩
    · obtain ⟨c, r, e, h1, h2⟩ := ih (n / 10) (by omega) (by omega)
      exact ⟨c, r ++ [48 + n % 10], by rw [TL.numL_step (by omega), e]; rfl, h1, h2⟩
theorem one_ne {c d : Nat} (h : c ≠ d) : (⟨#[c]⟩ : Str) ≠ ⟨#[d]⟩ := fun q => by
  have := congrArg (fun s : Str => s.cps.toList) q
  simp at this; exact h this
theorem str_cps_ne {s t : Str} (h : s.cps.toList ≠ t.cps.toList) : s ≠ t := fun q => h (by rw [q])
theorem zero_cps : (Str.ofString "0").cps.toList = [48] := by decide +kernel
theorem len_cps (s : Str) : s.length = s.cps.toList.length := by simp [Str.length]
theorem body_str (n : Int) : (bodyS (Str.ofString (toString n))).cps.toList = TL.numL n.natAbs := by
  have c := str_cps n
  obtain ⟨w, hw⟩ : ∃ w, w = Str.ofString (toString n) := ⟨_, rfl⟩
  rw [← hw] at c ⊢
  have cut := cut1_cps w
  by_cases hn : n < 0
  · rw [if_pos hn] at c
    have e : cutS w none (some 1) = Str.ofString "-" := str_ext (by rw [cut, c, min_cps]; rfl)
    unfold bodyS
    rw [if_pos e, cut2_cps w (by rw [c]; simp), c]
    try rfl
  · rw [if_neg hn, List.nil_append] at c
    have e : cutS w none (some 1) ≠ Str.ofString "-" := by
      refine str_cps_ne ?_
      rw [cut, c, min_cps]
      have dg := TL.numL_digits n.natAbs
      have ne := TL.numL_ne n.natAbs
      cases hl : TL.numL n.natAbs with
      | nil => exact absurd hl ne
      | cons a r =>
        rw [hl] at dg
        have := dg a (by simp)
        simp
        omega
    unfold bodyS
    rw [if_neg e, c]
theorem numD_str {n : Int} (h : n.natAbs < 10 ^ 59) : numD (Str.ofString (toString n)) = .int n := by
  have nl := TL.numL_len (k := 59) (by omega) h
  have hi := int_str (n := n) (by omega)
  have c := str_cps n
  have bc := body_str n
  obtain ⟨w, hw⟩ : ∃ w, w = Str.ofString (toString n) := ⟨_, rfl⟩
  rw [← hw] at c bc hi ⊢
  have wl : w.length ≤ 60 := by rw [len_cps, c]; split <;> simp <;> omega
  have n1 : bodyS w ≠ Str.ofString "" := str_cps_ne (by rw [bc, show (Str.ofString "").cps.toList = [] by decide +kernel]; exact TL.numL_ne _)
  have n3 : (signs (bodyS w)).any badF = false := by
    refine List.any_eq_false.mpr fun x hx => ?_
    obtain ⟨a, ha, rfl⟩ := List.mem_map.mp hx
    rw [bc] at ha
    have := TL.numL_digits n.natAbs a ha
    simp only [badF, has_fig]
    simp; omega
  have n4 : ¬ (firstS (bodyS w) = Str.ofString "0" ∧ w ≠ Str.ofString "0") := by
    rintro ⟨q1, q2⟩
    by_cases h0 : n = 0
    · subst h0
      exact q2 (by rw [hw]; decide +kernel)
    · obtain ⟨a, r, e, h1, h2⟩ := numL_head n.natAbs (by omega)
      have := congrArg (fun s : Str => s.cps.toList) q1
      simp only [firstS, bc, e, zero_cps] at this
      simp at this
      omega
  unfold numD
  rw [if_neg (by rintro (q | q); exact n1 q; omega), n3, if_neg (by simp), if_neg n4, hi]
  rfl
theorem call_text {k : Nat} {n : Int} {os : Os} (h : n.natAbs < 10 ^ 59) : call T (k + 1) 0 [.int n] os = .ok (.str (Str.ofString (toString n)), false) os := by
  have hl : n.natAbs.log2 < 1920 := Nat.lt_trans (log_lt (n := 200) (Nat.lt_trans h (by decide)) (by decide)) (by decide)
  have : fnD .str os [.int n] = some (.str (Str.ofString (toString n)), false) := by
    simp only [fnD]; rw [if_pos hl]
  simp [cl_number_text, ir_number_text, this]
theorem call_whole {k : Nat} {i : Int} {os : Os} : call T (k + 1) 3 [.int i] os = .ok (.bl true, false) os := by
  simp [cl_law_whole, ir_law_whole]
theorem len_ofS (s : String) (n : Nat) (h : (Str.ofString s).length = n) : (Str.ofString s).length ≤ n := by omega
theorem rep_ok {s : Str} {k : Int} (h : s.length ≤ 100) (h0 : 0 ≤ k) (h1 : k ≤ 100) : RepOk s k := by
  unfold RepOk
  refine ⟨?_, by omega, by omega⟩
  have : s.length * k.toNat ≤ 100 * 100 := Nat.mul_le_mul h (by omega)
  omega
theorem rep_len2 {s : Str} {k : Int} (h : s.length ≤ 100) (h0 : 0 ≤ k) (h1 : k ≤ 100) : (repS s k.toNat).length ≤ 10000 := by
  rw [rep_len]
  have : k.toNat * s.length ≤ 100 * 100 := Nat.mul_le_mul (by omega) h
  omega
theorem call_bent {k : Nat} {t : Str} {x : Int} {os : Os} (ht : t.length ≤ 100) : ∃ s : Str, call T (k + 2) 7 [.str t, .int x] os = .ok (.str s, false) os ∧ s.length ≤ 10000 := by
  obtain ⟨c, hc⟩ := call_sign (k := k) (x := x / 100) (os := os)
  have fl := f_lens (os := os) (s := t) (by omega)
  have hp : (0 : Int) < t.length + 1 := by omega
  obtain ⟨m, hm⟩ : ∃ m, m = x / 8 % ((t.length : Int) + 1) := ⟨_, rfl⟩
  have bm := bin_mod (os := os) (i := x / 8) hp
  rw [← hm] at bm
  have s1 : (cutS t none (some m)).length ≤ 100 := Nat.le_trans (cutS_len ..) ht
  have s2 : (cutS t (some m) none).length ≤ 100 := Nat.le_trans (cutS_len ..) ht
  have s3 : (cutS t (some (m + 1)) none).length ≤ 100 := Nat.le_trans (cutS_len ..) ht
  have y1 := y_sls (os := os) (s := t) (lo := none) (hi := some m) (by omega)
  have y2 := y_sls (os := os) (s := t) (lo := some m) (hi := none) (by omega)
  have y3 := y_sls (os := os) (s := t) (lo := some (m + 1)) (hi := none) (by omega)
  have one : (⟨#[c]⟩ : Str).length = 1 := rfl
  have a1 : binD .add os (.str (cutS t none (some m))) (.str ⟨#[c]⟩) = _ := n_adds (by rw [one]; omega)
  have a2 : binD .add os (.str (cutS t none (some m) ++ ⟨#[c]⟩)) (.str (cutS t (some m) none)) = _ := n_adds (by rw [len_app, one]; omega)
  have a3 : binD .add os (.str (cutS t none (some m) ++ ⟨#[c]⟩)) (.str (cutS t (some (m + 1)) none)) = _ := n_adds (by rw [len_app, one]; omega)
  have a4 : binD .add os (.str (cutS t none (some m))) (.str (cutS t (some (m + 1)) none)) = _ := n_adds (by omega)
  obtain ⟨q, hq⟩ : ∃ q, q = x / 8 := ⟨_, rfl⟩
  have h8 : x % 8 = 0 ∨ x % 8 = 1 ∨ x % 8 = 2 ∨ x % 8 = 3 ∨ x % 8 = 4 ∨ x % 8 = 5 ∨ x % 8 = 6 ∨ x % 8 = 7 := by omega
  rcases h8 with h | h | h | h | h | h | h | h
  · refine ⟨cutS t none (some m) ++ ⟨#[c]⟩ ++ cutS t (some m) none, ?_, by rw [len_app, len_app, one]; omega⟩
    simp [cl_law_bent, ir_law_bent, fl, bm, hc, h, y1, y2, a1, a2]
  · refine ⟨cutS t none (some m) ++ ⟨#[c]⟩ ++ cutS t (some (m + 1)) none, ?_, by rw [len_app, len_app, one]; omega⟩
    simp [cl_law_bent, ir_law_bent, fl, bm, hc, h, y1, y3, a1, a3]
  · refine ⟨cutS t none (some m) ++ cutS t (some (m + 1)) none, ?_, by rw [len_app]; omega⟩
    simp [cl_law_bent, ir_law_bent, fl, bm, hc, h, y1, y3, a4]
  · have l0 : (Str.ofString "0").length ≤ 100 := by decide +kernel
    have m1 := mul_str (os := os) (rep_ok (k := 1 + x / 8 % 3) l0 (by omega) (by omega))
    have ml := rep_len2 (k := 1 + x / 8 % 3) l0 (by omega) (by omega)
    obtain ⟨r, hr⟩ : ∃ r, r = repS (Str.ofString "0") (1 + x / 8 % 3).toNat := ⟨_, rfl⟩
    rw [← hr] at m1 ml
    have : r.length ≤ 100 := by
      rw [hr, rep_len]
      have l1 : (Str.ofString "0").length = 1 := by decide +kernel
      rw [l1]; omega
    have a5 : binD .add os (.str r) (.str t) = _ := n_adds (by omega)
    refine ⟨r ++ t, ?_, by rw [len_app]; omega⟩
    simp [cl_law_bent, ir_law_bent, fl, bm, hc, h, m1, a5]
  · have l0 : (Str.ofString "-").length = 1 := by decide +kernel
    have l1 : (Str.ofString "123456789").length = 9 := by decide +kernel
    have m1 := mul_str (os := os) (rep_ok (s := Str.ofString "-") (k := x / 8 % 2) (by omega) (by omega) (by omega))
    have m2 := mul_str (os := os) (rep_ok (s := Str.ofString "123456789") (k := 7) (by omega) (by omega) (by omega))
    obtain ⟨r, hr⟩ : ∃ r, r = repS (Str.ofString "-") (x / 8 % 2).toNat := ⟨_, rfl⟩
    obtain ⟨u, hu⟩ : ∃ u, u = repS (Str.ofString "123456789") (7 : Int).toNat := ⟨_, rfl⟩
    rw [← hr] at m1
    rw [← hu] at m2
    have rl : r.length ≤ 10 := by rw [hr, rep_len, l0]; omega
    have ul : u.length ≤ 100 := by rw [hu, rep_len, l1]; decide
    have a5 : binD .add os (.str r) (.str u) = _ := n_adds (by omega)
    refine ⟨r ++ u, ?_, by rw [len_app]; omega⟩
    simp [cl_law_bent, ir_law_bent, fl, bm, hc, h, m1, m2, a5]
  · have l0 : (Str.ofString "-").length = 1 := by decide +kernel
    have l1 : (Str.ofString "987654321").length = 9 := by decide +kernel
    have m1 := mul_str (os := os) (rep_ok (s := Str.ofString "-") (k := x / 8 % 2) (by omega) (by omega) (by omega))
    have m2 := mul_str (os := os) (rep_ok (s := Str.ofString "987654321") (k := 7) (by omega) (by omega) (by omega))
    obtain ⟨r, hr⟩ : ∃ r, r = repS (Str.ofString "-") (x / 8 % 2).toNat := ⟨_, rfl⟩
    obtain ⟨u, hu⟩ : ∃ u, u = repS (Str.ofString "987654321") (7 : Int).toNat := ⟨_, rfl⟩
    rw [← hr] at m1
    rw [← hu] at m2
    have rl : r.length ≤ 10 := by rw [hr, rep_len, l0]; omega
    have ul : u.length ≤ 100 := by rw [hu, rep_len, l1]; decide
    have a5 : binD .add os (.str r) (.str u) = _ := n_adds (by omega)
    have tl : (r ++ u).length ≤ 110 := by rw [len_app]; omega
    have y5 := y_sls (os := os) (s := r ++ u) (lo := none) (hi := some (57 + x / 16 % 6)) (by omega)
    refine ⟨cutS (r ++ u) none (some (57 + x / 16 % 6)), ?_, Nat.le_trans (cutS_len ..) (by omega)⟩
    simp [cl_law_bent, ir_law_bent, fl, bm, hc, h, m1, m2, a5, y5]
  · have h8 : x / 8 % 8 = 0 ∨ x / 8 % 8 = 1 ∨ x / 8 % 8 = 2 ∨ x / 8 % 8 = 3 ∨ x / 8 % 8 = 4 ∨ x / 8 % 8 = 5 ∨ x / 8 % 8 = 6 ∨ x / 8 % 8 = 7 := by omega
    rcases h8 with q | q | q | q | q | q | q | q
    · exact ⟨Str.ofString "", by simp [cl_law_bent, ir_law_bent, fl, bm, hc, h, q, atI, ixN], by decide +kernel⟩
    · exact ⟨Str.ofString "-", by simp [cl_law_bent, ir_law_bent, fl, bm, hc, h, q, atI, ixN], by decide +kernel⟩
    · exact ⟨Str.ofString "-0", by simp [cl_law_bent, ir_law_bent, fl, bm, hc, h, q, atI, ixN], by decide +kernel⟩
    · exact ⟨Str.ofString "--1", by simp [cl_law_bent, ir_law_bent, fl, bm, hc, h, q, atI, ixN], by decide +kernel⟩
    · exact ⟨Str.ofString "+1", by simp [cl_law_bent, ir_law_bent, fl, bm, hc, h, q, atI, ixN], by decide +kernel⟩
    · exact ⟨Str.ofString "0", by simp [cl_law_bent, ir_law_bent, fl, bm, hc, h, q, atI, ixN], by decide +kernel⟩
    · exact ⟨Str.ofString "00", by simp [cl_law_bent, ir_law_bent, fl, bm, hc, h, q, atI, ixN], by decide +kernel⟩
    · exact ⟨Str.ofString "1-", by simp [cl_law_bent, ir_law_bent, fl, bm, hc, h, q, atI, ixN], by decide +kernel⟩
  · refine ⟨t, ?_, by omega⟩
    simp [cl_law_bent, ir_law_bent, fl, bm, hc, h]
theorem numD_kind (w : Str) : numD w = .non ∨ ∃ i, numD w = .int i := by
  unfold numD
  split
  · exact .inl rfl
  · split
    · exact .inl rfl
    · split
      · exact .inl rfl
      · exact .inr ⟨_, rfl⟩

theorem big_near {z c : Int} (h : Builtin.Int.intBits z ≤ 1048576) (h1 : 0 ≤ c) (h2 : c < 1000000) : Big (z + c) := by
  have hb : z.natAbs.log2 ≤ 1048576 := by
    unfold Builtin.Int.intBits at h
    split at h
    · rename_i q
      have : z = 0 := by simpa using q
      subst this
      decide
    · omega
  have a : z.natAbs < 2 ^ (z.natAbs.log2 + 1) := Nat.lt_log2_self
  have h3 : (z + c).natAbs < 2 ^ (z.natAbs.log2 + 1) + 2 ^ 20 := by omega
  by_cases h0 : (z + c).natAbs = 0
  · unfold Big; rw [h0]; decide
  · have h4 : (z + c).natAbs < 2 ^ (z.natAbs.log2 + 22) := by
      have b : 2 ^ (z.natAbs.log2 + 1) ≤ 2 ^ (z.natAbs.log2 + 21) := Nat.pow_le_pow_right (by omega) (by omega)
      have c' : 2 ^ 20 ≤ 2 ^ (z.natAbs.log2 + 21) := Nat.pow_le_pow_right (by omega) (by omega)
      have d : 2 ^ (z.natAbs.log2 + 22) = 2 ^ (z.natAbs.log2 + 21) * 2 := Nat.pow_succ ..
      omega
    have := (Nat.log2_lt h0).mpr h4
    unfold Big; omega
abbrev lawE (l : List Int) (e1 e2 e3 e4 e5 e6 e7 : Ent) : List Ent := [.val (.lst (nums l)) false, e1, e2, e3, e4, e5, e6, e7]
theorem at0 {α : Type} {x : α} {xs : List α} : atI (x :: xs) 0 = some x := by
  have : atI (x :: xs) ((0 : Nat) : Int) = _ := atI_nat (by simp)
  exact this
theorem at1 {α : Type} {x y : α} {xs : List α} : atI (x :: y :: xs) 1 = some y := by
  have : atI (x :: y :: xs) ((1 : Nat) : Int) = _ := atI_nat (by simp)
  exact this
theorem at2 {α : Type} {x y z : α} {xs : List α} : atI (x :: y :: z :: xs) 2 = some z := by
  have : atI (x :: y :: z :: xs) ((2 : Nat) : Int) = _ := atI_nat (by simp)
  exact this
theorem law_num {k j : Nat} {ns : List Int} {os : Os} {e2 e3 e4 e5 e6 e7 : Ent} (hj : j < ns.length) (hl : ns.length ≤ 63) (hb : ∀ z ∈ ns, Builtin.Int.intBits z ≤ 1048576) :
    ∃ C N : Int, N.natAbs < 10 ^ 59 ∧ execB (T.cf k) ir_law_b1 ⟨lawE ns (.val (.int j) false) e2 e3 e4 e5 e6 e7, os⟩ = execB (T.cf k) (ir_law_b1.drop 3) ⟨lawE ns (.val (.int j) false) (.val (.int C) false) (.val (.int N) false) e4 e5 e6 e7, os⟩ := by
  obtain ⟨z, hz⟩ : ∃ z, z = ns[j] := ⟨_, rfl⟩
  have hzb : Builtin.Int.intBits z ≤ 1048576 := by rw [hz]; exact hb _ (List.getElem_mem hj)
  have az : atI (nums ns) (j : Int) = some (.int z) := by rw [nums, atI_map, atI_nat hj, hz]; rfl
  have m1 : mulOk 7919 j = true := mulOk_s (by omega) (by omega) (by omega) (by omega)
  obtain ⟨C, hC⟩ : ∃ C, C = z + 7919 * (j : Int) := ⟨_, rfl⟩
  have bC : Big (C / 3) := big_div (by rw [hC]; exact big_near hzb (by omega) (by omega)) 3
  obtain ⟨P, hP⟩ : ∃ P : Int, P = 48271 ^ 11 := ⟨_, rfl⟩
  obtain ⟨Q, hQ⟩ : ∃ Q : Int, Q = 69621 ^ 9 := ⟨_, rfl⟩
  obtain ⟨A, hA⟩ : ∃ A : Int, A = 10 ^ 59 := ⟨_, rfl⟩
  obtain ⟨B, hB⟩ : ∃ B : Int, B = 10 ^ 40 := ⟨_, rfl⟩
  have p1 : binD .pow os (.int 48271) (.int 11) = some (.int P, false) := by rw [hP]; exact bin_pow ⟨by omega, by omega, by decide⟩
  have p2 : binD .pow os (.int 69621) (.int 9) = some (.int Q, false) := by rw [hQ]; exact bin_pow ⟨by omega, by omega, by decide⟩
  have p3 : binD .pow os (.int 10) (.int 59) = some (.int A, false) := by rw [hA]; exact bin_pow ⟨by omega, by omega, by decide⟩
  have p4 : binD .pow os (.int 10) (.int 40) = some (.int B, false) := by rw [hB]; exact bin_pow ⟨by omega, by omega, by decide⟩
  have m2 : mulOk (C / 3) P = true := mulOk_bb bC (by rw [hP]; exact Nat.lt_trans (log_lt (n := 250) (by decide) (by decide)) (by decide))
  have m3 : mulOk (C / 3) Q = true := mulOk_bb bC (by rw [hQ]; exact Nat.lt_trans (log_lt (n := 250) (by decide) (by decide)) (by decide))
  have A0 : 0 < A := by rw [hA]; decide
  have B0 : 0 < B := by rw [hB]; decide
  have d1 := bin_mod (os := os) (i := C / 3 * P) A0
  have d2 := bin_mod (os := os) (i := C / 3 * Q) B0
  have x1 := Int.emod_nonneg (C / 3 * P) (show A ≠ 0 by omega)
  have x2 := Int.emod_lt_of_pos (C / 3 * P) A0
  have x3 := Int.emod_nonneg (C / 3 * Q) (show B ≠ 0 by omega)
  have x4 := Int.emod_lt_of_pos (C / 3 * Q) B0
  obtain ⟨X, hX⟩ : ∃ X, X = C / 3 * P % A := ⟨_, rfl⟩
  obtain ⟨Y, hY⟩ : ∃ Y, Y = C / 3 * Q % B := ⟨_, rfl⟩
  rw [← hX] at x1 x2 d1
  rw [← hY] at x3 x4 d2
  have h3 : C % 3 = 0 ∨ C % 3 = 1 ∨ C % 3 = 2 := by omega
  clear hP hQ
  have spl : ir_law_b1 = ir_law_b1.take 3 ++ ir_law_b1.drop 3 := rfl
  rw [spl]
  generalize ir_law_b1.drop 3 = rest
  rw [show ir_law_b1.take 3 = [.set (.nm 2) (.bin .add (.ix (.b 0) (.b 1)) (.bin .mul (.c (.int 7919)) (.b 1))), .set (.nm 3) (.ix (.lst [.bin .sub (.bin .mod (.bin .fdiv (.b 2) (.c (.int 3))) (.c (.int 100))) (.c (.int 50)), .bin .mod (.bin .mul (.bin .fdiv (.b 2) (.c (.int 3))) (.bin .pow (.c (.int 48271)) (.c (.int 11)))) (.bin .pow (.c (.int 10)) (.c (.int 59))), .c (.int 0)]) (.bin .mod (.b 2) (.c (.int 3)))), .ifS (.cmp .eq (.bin .mod (.b 2) (.c (.int 3))) (.c (.int 2))) [.set (.nm 3) (.bin .sub (.c (.int 0)) (.bin .mod (.bin .mul (.bin .fdiv (.b 2) (.c (.int 3))) (.bin .pow (.c (.int 69621)) (.c (.int 9)))) (.bin .pow (.c (.int 10)) (.c (.int 40)))))] []] from rfl]
  unfold lawE
  generalize nums ns = LN at *
  rcases h3 with h | h | h
  · refine ⟨C, C / 3 % 100 - 50, by omega, ?_⟩
    simp [-n_pow, az, m1, ← hC, h, p1, p2, p3, p4, m2, m3, d1, d2, at0, at1, at2]
  · refine ⟨C, X, ?_, ?_⟩
    · have : A = 100000000000000000000000000000000000000000000000000000000000 := hA
      omega
    · simp [-n_pow, az, m1, ← hC, h, p1, p2, p3, p4, m2, m3, d1, d2, at0, at1, at2]
  · refine ⟨C, 0 - Y, ?_, ?_⟩
    · have : B = 10000000000000000000000000000000000000000 := hB
      omega
    · simp [-n_pow, az, m1, ← hC, h, p1, p2, p3, p4, m2, m3, d1, d2, at0, at1, at2]
theorem is_nn {os : Os} : cmpD .is os .non .non = some true := rfl
theorem isnot_nn {os : Os} : cmpD .isnot os .non .non = some false := rfl
theorem is_in {os : Os} {i : Int} : cmpD .is os (.int i) .non = some false := rfl
theorem isnot_in {os : Os} {i : Int} : cmpD .isnot os (.int i) .non = some true := rfl
theorem law_body {k j : Nat} {ns : List Int} {os : Os} {e2 e3 e4 e5 e6 e7 : Ent} (hj : j < ns.length) (hl : ns.length ≤ 63) (hb : ∀ z ∈ ns, Builtin.Int.intBits z ≤ 1048576) :
    ∃ f2 f3 f4 f5 f6 f7, execB (T.cf (k + 3)) ir_law_b1 ⟨lawE ns (.val (.int j) false) e2 e3 e4 e5 e6 e7, os⟩ = .ok .next ⟨lawE ns (.val (.int j) false) f2 f3 f4 f5 f6 f7, os⟩ := by
  obtain ⟨C, N, hN, e⟩ := law_num (k := k + 3) (os := os) (e2 := e2) (e3 := e3) (e4 := e4) (e5 := e5) (e6 := e6) (e7 := e7) hj hl hb
  rw [e]
  obtain ⟨t, ht⟩ : ∃ t, t = Str.ofString (toString N) := ⟨_, rfl⟩
  have nl := TL.numL_len (k := 59) (by omega) hN
  have c1 := call_text (k := k + 2) (os := os) hN
  have c2 := call_fig (k := k + 2) (os := os) (n := N) (by omega)
  have tl : t.length ≤ 60 := by rw [ht, len_cps, str_cps]; split <;> simp <;> omega
  have c3 := call_number_of (k := k + 2) (os := os) (w := t) (by omega)
  rw [ht, numD_str hN] at c3
  rw [← ht] at c1 c2 c3
  have cc : call T (k + 3) 2 [.lst (nums ns), .int ((j : Int) + 1)] os = .ok (.int (ns.getD (j + 1) 0), false) os := call_cell (k := k + 2) (n := j + 1)
  obtain ⟨s, c4, sl⟩ := call_bent (k := k + 1) (os := os) (t := t) (x := C / 3 + ns.getD (j + 1) 0) (by omega)
  have c5 := call_number_of (k := k + 2) (os := os) (w := s) sl
  have c6 := call_lnumber_of (k := k + 2) (os := os) (w := s) sl
  have c7 := fun i => call_whole (k := k + 2) (os := os) (i := i)
  unfold lawE
  generalize ns.getD (j + 1) 0 = G at *
  generalize nums ns = LN at *
  rcases numD_kind s with h | ⟨i, h⟩
  · rw [h] at c5 c6
    simp [ir_law_b1, c1, c2, c3, cc, c4, c5, c6, c7, is_nn, isnot_nn, is_in, isnot_in]
  · rw [h] at c5 c6
    simp [ir_law_b1, c1, c2, c3, cc, c4, c5, c6, c7, is_nn, isnot_nn, is_in, isnot_in]
theorem law_true (ns : List Int) (hl : ns.length ≤ 63) (hb : ∀ z ∈ ns, Builtin.Int.intBits z ≤ 1048576) : okTrue (call T 10 8 [.lst (ns.map D.int)] []) := by
  have loop : ∃ env2, forL (.nm 1) (execB (T.cf 9) ir_law_b1) [] ((List.range ns.length).map fun i : Nat => D.int i) ⟨lawE ns .no .no .no .no .no .no .no, []⟩ = .ok .next ⟨env2, []⟩ ∧ ∃ e1 e2 e3 e4 e5 e6 e7, env2 = lawE ns e1 e2 e3 e4 e5 e6 e7 := by
    refine forL_all _ _ ⟨_, _, _, _, _, _, _, rfl⟩ ?_
    rintro x hx env ⟨e1, e2, e3, e4, e5, e6, e7, rfl⟩
    obtain ⟨i, hi, rfl⟩ := List.mem_map.mp hx
    obtain ⟨f2, f3, f4, f5, f6, f7, e⟩ := law_body (k := 6) (ns := ns) (os := []) (e2 := e2) (e3 := e3) (e4 := e4) (e5 := e5) (e6 := e6) (e7 := e7) (List.mem_range.mp hi) hl hb
    exact ⟨_, .next, _, by rw [setT_n]; rfl, e, by simp, ⟨_, _, _, _, _, _, _, rfl⟩⟩
  obtain ⟨env2, l1, e1, e2, e3, e4, e5, e6, e7, rfl⟩ := loop
  have sr := src_range1 (os := []) (b := ns.length) (by omega) (by omega)
  have nl : (nums ns).length = ns.length := by simp [nums]
  have et : ((ns.length : Int)).toNat = ns.length := by omega
  rw [et] at sr
  unfold lawE at l1
  rw [cl_law rfl]
  show okTrue (outF (execB (T.cf 9) ir_law ⟨envOf 8 [.lst (nums ns)], []⟩))
  generalize nums ns = LN at *
  simp [ir_law, nl, sr, l1, okTrue]
end
end Vi

namespace Vi
open PySem L2
noncomputable section
theorem all_mk {l : PySem.W.OpenLaw} {w : World} {K : PySem.W.Frag} {h : Heap} {mg : Str → Option Value} {fa0 : Addr} (X : K.In h) (G : h.Ns mainGlobals mg) (hfa : mg "law" = some (.ref fa0))
    {f0 f1 f2 f3 f4 f5 f6 f7 f8 : Addr} {od0 an0 od1 an1 od2 an2 od3 an3 od4 an4 od5 an5 od6 an6 od7 an7 od8 an8 : Option Addr} {sl0 sl1 sl2 sl3 sl4 sl5 sl6 sl7 sl8 : Array (Option Value)} {oc0 kV0 dc0 pm0 cd0 ct0 oc1 kV1 dc1 pm1 cd1 ct1 oc2 kV2 dc2 pm2 cd2 ct2 oc3 kV3 dc3 pm3 cd3 ct3 oc4 kV4 dc4 pm4 cd4 ct4 oc5 kV5 dc5 pm5 cd5 ct5 oc6 kV6 dc6 pm6 cd6 ct6 oc7 kV7 dc7 pm7 cd7 ct7 oc8 kV8 dc8 pm8 cd8 ct8 : Value}
    {tk0 tk1 : Nat}
    (a0 : PySem.W.nsIn K mainGlobals "number_text" = some (some (.ref f0))) (l0 : K.lookup f0 = some ⟨oc0, od0, .func (PySem.W.fnOf "number_text" "number_text" (defArgs (top 3)) (defBody (top 3)) (defScope (top 3)) .none kV0 dc0 pm0 an0 cd0 ct0), sl0⟩) (c0 : PySem.W.codeIn K cd0 "number_text" = true) (k0 : PySem.W.keepIn K (.ref f0) = true)
    (a1 : PySem.W.nsIn K mainGlobals "number_of" = some (some (.ref f1))) (l1 : K.lookup f1 = some ⟨oc1, od1, .func (PySem.W.fnOf "number_of" "number_of" (defArgs (top 4)) (defBody (top 4)) (defScope (top 4)) .none kV1 dc1 pm1 an1 cd1 ct1), sl1⟩) (c1 : PySem.W.codeIn K cd1 "number_of" = true) (k1 : PySem.W.keepIn K (.ref f1) = true)
    (a2 : PySem.W.nsIn K mainGlobals "_law_at" = some (some (.ref f2))) (l2 : K.lookup f2 = some ⟨oc2, od2, .func (PySem.W.fnOf "_law_at" "_law_at" (defArgs (top 6)) (defBody (top 6)) (defScope (top 6)) .none kV2 dc2 pm2 an2 cd2 ct2), sl2⟩) (c2 : PySem.W.codeIn K cd2 "_law_at" = true) (k2 : PySem.W.keepIn K (.ref f2) = true)
    (a3 : PySem.W.nsIn K mainGlobals "_law_whole" = some (some (.ref f3))) (l3 : K.lookup f3 = some ⟨oc3, od3, .func (PySem.W.fnOf "_law_whole" "_law_whole" (defArgs (top 7)) (defBody (top 7)) (defScope (top 7)) .none kV3 dc3 pm3 an3 cd3 ct3), sl3⟩) (c3 : PySem.W.codeIn K cd3 "_law_whole" = true) (k3 : PySem.W.keepIn K (.ref f3) = true)
    (a4 : PySem.W.nsIn K mainGlobals "_law_sign" = some (some (.ref f4))) (l4 : K.lookup f4 = some ⟨oc4, od4, .func (PySem.W.fnOf "_law_sign" "_law_sign" (defArgs (top 8)) (defBody (top 8)) (defScope (top 8)) .none kV4 dc4 pm4 an4 cd4 ct4), sl4⟩) (c4 : PySem.W.codeIn K cd4 "_law_sign" = true) (k4 : PySem.W.keepIn K (.ref f4) = true)
    (a5 : PySem.W.nsIn K mainGlobals "_law_number_of" = some (some (.ref f5))) (l5 : K.lookup f5 = some ⟨oc5, od5, .func (PySem.W.fnOf "_law_number_of" "_law_number_of" (defArgs (top 9)) (defBody (top 9)) (defScope (top 9)) .none kV5 dc5 pm5 an5 cd5 ct5), sl5⟩) (c5 : PySem.W.codeIn K cd5 "_law_number_of" = true) (k5 : PySem.W.keepIn K (.ref f5) = true)
    (a6 : PySem.W.nsIn K mainGlobals "_law_figures" = some (some (.ref f6))) (l6 : K.lookup f6 = some ⟨oc6, od6, .func (PySem.W.fnOf "_law_figures" "_law_figures" (defArgs (top 10)) (defBody (top 10)) (defScope (top 10)) .none kV6 dc6 pm6 an6 cd6 ct6), sl6⟩) (c6 : PySem.W.codeIn K cd6 "_law_figures" = true) (k6 : PySem.W.keepIn K (.ref f6) = true)
    (a7 : PySem.W.nsIn K mainGlobals "_law_bent" = some (some (.ref f7))) (l7 : K.lookup f7 = some ⟨oc7, od7, .func (PySem.W.fnOf "_law_bent" "_law_bent" (defArgs (top 11)) (defBody (top 11)) (defScope (top 11)) .none kV7 dc7 pm7 an7 cd7 ct7), sl7⟩) (c7 : PySem.W.codeIn K cd7 "_law_bent" = true) (k7 : PySem.W.keepIn K (.ref f7) = true)
    (a8 : PySem.W.nsIn K mainGlobals "law" = some (some (.ref f8))) (l8 : K.lookup f8 = some ⟨oc8, od8, .func (PySem.W.fnOf "law" "law" (defArgs (top 12)) (defBody (top 12)) (defScope (top 12)) .none kV8 dc8 pm8 an8 cd8 ct8), sl8⟩) (c8 : PySem.W.codeIn K cd8 "law" = true) (k8 : PySem.W.keepIn K (.ref f8) = true)
    (z0 : PySem.W.nsIn K mainGlobals "abs" = some none)
    (z1 : PySem.W.nsIn K mainGlobals "bool" = some none)
    (z2 : PySem.W.nsIn K mainGlobals "int" = some none)
    (z3 : PySem.W.nsIn K mainGlobals "isinstance" = some none)
    (z4 : PySem.W.nsIn K mainGlobals "len" = some none)
    (z5 : PySem.W.nsIn K mainGlobals "range" = some none)
    (z6 : PySem.W.nsIn K mainGlobals "str" = some none)
    (y0 : PySem.W.nsIn K mainGlobals "FIGURES" = some (some (.str "0123456789" tk0)))
    (y1 : PySem.W.nsIn K mainGlobals "MOST_SIGNS" = some (some (.int 60 tk1)))
    (nl : noLists K = true) : ∃ fd : FuncData, (∀ (s : Shared) (v : Value), BindsTo s fd ⟨[v], []⟩ [("_law_script", v)]) ∧ ∀ base : Heap, K.In base → base.Ns mainGlobals mg → FnOk l.prog w K mg base (L2.CX l.prog w) 10 fa0 fd ["_law_script"] (spLaw K) := by
  have e : fa0 = f8 := by have e := hfa.symm.trans (PySem.W.mg_of X G a8); cases e; rfl
  have F0 := fun_mk (st := top 3) l0 c0 k0
  have b0 := F0.binds (ps := ["number"]) fun _ _ _ _ _ _ us hl => match us, hl with | [_], _ => rfl
  have F1 := fun_mk (st := top 4) l1 c1 k1
  have b1 := F1.binds (ps := ["word"]) fun _ _ _ _ _ _ us hl => match us, hl with | [_], _ => rfl
  have F2 := fun_mk (st := top 6) l2 c2 k2
  have b2 := F2.binds (ps := ["_law_script", "_law_k"]) fun _ _ _ _ _ _ us hl => match us, hl with | [_, _], _ => rfl
  have F3 := fun_mk (st := top 7) l3 c3 k3
  have b3 := F3.binds (ps := ["_law_thing"]) fun _ _ _ _ _ _ us hl => match us, hl with | [_], _ => rfl
  have F4 := fun_mk (st := top 8) l4 c4 k4
  have b4 := F4.binds (ps := ["_law_cell"]) fun _ _ _ _ _ _ us hl => match us, hl with | [_], _ => rfl
  have F5 := fun_mk (st := top 9) l5 c5 k5
  have b5 := F5.binds (ps := ["_law_word"]) fun _ _ _ _ _ _ us hl => match us, hl with | [_], _ => rfl
  have F6 := fun_mk (st := top 10) l6 c6 k6
  have b6 := F6.binds (ps := ["_law_number"]) fun _ _ _ _ _ _ us hl => match us, hl with | [_], _ => rfl
  have F7 := fun_mk (st := top 11) l7 c7 k7
  have b7 := F7.binds (ps := ["_law_text", "_law_cell"]) fun _ _ _ _ _ _ us hl => match us, hl with | [_, _], _ => rfl
  have F8 := fun_mk (st := top 12) l8 c8 k8
  have b8 := F8.binds (ps := ["_law_script"]) fun _ _ _ _ _ _ us hl => match us, hl with | [_], _ => rfl
  have M : Made K mg dis con free (fun i => ([f0, f1, f2, f3, f4, f5, f6, f7, f8] : List Addr).getD i 0) (fun i => ([PySem.W.fnOf "number_text" "number_text" (defArgs (top 3)) (defBody (top 3)) (defScope (top 3)) .none kV0 dc0 pm0 an0 cd0 ct0, PySem.W.fnOf "number_of" "number_of" (defArgs (top 4)) (defBody (top 4)) (defScope (top 4)) .none kV1 dc1 pm1 an1 cd1 ct1, PySem.W.fnOf "_law_at" "_law_at" (defArgs (top 6)) (defBody (top 6)) (defScope (top 6)) .none kV2 dc2 pm2 an2 cd2 ct2, PySem.W.fnOf "_law_whole" "_law_whole" (defArgs (top 7)) (defBody (top 7)) (defScope (top 7)) .none kV3 dc3 pm3 an3 cd3 ct3, PySem.W.fnOf "_law_sign" "_law_sign" (defArgs (top 8)) (defBody (top 8)) (defScope (top 8)) .none kV4 dc4 pm4 an4 cd4 ct4, PySem.W.fnOf "_law_number_of" "_law_number_of" (defArgs (top 9)) (defBody (top 9)) (defScope (top 9)) .none kV5 dc5 pm5 an5 cd5 ct5, PySem.W.fnOf "_law_figures" "_law_figures" (defArgs (top 10)) (defBody (top 10)) (defScope (top 10)) .none kV6 dc6 pm6 an6 cd6 ct6, PySem.W.fnOf "_law_bent" "_law_bent" (defArgs (top 11)) (defBody (top 11)) (defScope (top 11)) .none kV7 dc7 pm7 an7 cd7 ct7, PySem.W.fnOf "law" "law" (defArgs (top 12)) (defBody (top 12)) (defScope (top 12)) .none kV8 dc8 pm8 an8 cd8 ct8] : List FuncData).getD i (PySem.W.fnOf "number_text" "number_text" (defArgs (top 3)) (defBody (top 3)) (defScope (top 3)) .none kV0 dc0 pm0 an0 cd0 ct0)) := by
    refine ⟨fun i di h => ?_, fun x h => ?_, fun x d h => ?_⟩
    · match i, h with
      | 0, h => cases h; exact ⟨F0, b0, PySem.W.mg_of X G a0, k0⟩
      | 1, h => cases h; exact ⟨F1, b1, PySem.W.mg_of X G a1, k1⟩
      | 2, h => cases h; exact ⟨F2, b2, PySem.W.mg_of X G a2, k2⟩
      | 3, h => cases h; exact ⟨F3, b3, PySem.W.mg_of X G a3, k3⟩
      | 4, h => cases h; exact ⟨F4, b4, PySem.W.mg_of X G a4, k4⟩
      | 5, h => cases h; exact ⟨F5, b5, PySem.W.mg_of X G a5, k5⟩
      | 6, h => cases h; exact ⟨F6, b6, PySem.W.mg_of X G a6, k6⟩
      | 7, h => cases h; exact ⟨F7, b7, PySem.W.mg_of X G a7, k7⟩
      | 8, h => cases h; exact ⟨F8, b8, PySem.W.mg_of X G a8, k8⟩
      | n + 9, h => cases h
    · simp only [free, List.mem_cons, List.not_mem_nil, or_false] at h
      rcases h with rfl | rfl | rfl | rfl | rfl | rfl | rfl
      · exact PySem.W.mg_none_of X G z0
      · exact PySem.W.mg_none_of X G z1
      · exact PySem.W.mg_none_of X G z2
      · exact PySem.W.mg_none_of X G z3
      · exact PySem.W.mg_none_of X G z4
      · exact PySem.W.mg_none_of X G z5
      · exact PySem.W.mg_none_of X G z6
    · have hm := lookup_mem h
      simp only [con, List.mem_cons, List.not_mem_nil, or_false, Prod.mk.injEq] at hm
      rcases hm with ⟨rfl, rfl⟩ | ⟨rfl, rfl⟩
      · exact ⟨_, .str "0123456789", PySem.W.mg_of X G y0, ⟨_, rfl⟩, rp_str (by decide +kernel)⟩
      · exact ⟨_, .int 60, PySem.W.mg_of X G y1, ⟨_, rfl⟩, rp_int⟩
  refine ⟨PySem.W.fnOf "law" "law" (defArgs (top 12)) (defBody (top 12)) (defScope (top 12)) .none kV8 dc8 pm8 an8 cd8 ct8, fun s v => .of_eq rfl, fun base _ _ => ?_⟩
  rw [e]
  exact law_fn (T := T) (cad := fun _ => 0) nl (defs_ok T rfl M fns_ok dis_ok 10 8 di_law rfl) law_true
theorem walk {l : PySem.W.OpenLaw} {q : Program} {loose : List Str} {XP : (Str → Option Value) → Heap → Prop} {YP : World → Heap → Prop} {d : DefRec} {K : Params → PySem.W.Frag} (hn : l.most = some 63) (hdf : d.params.defaults = [])
    (hY : ∀ (w : World) (h : Heap), YP w h → (K w.params).In h)
    (F : ∀ (w : World) (mg : Str → Option Value) (fa : Addr) (h : Heap), (K w.params).In h → h.Ns mainGlobals mg → mg d.name = some (.ref fa) →
      ∃ fd : FuncData, (∀ (s : Shared) (u : Value), BindsTo s fd ⟨[u], []⟩ [("_law_script", u)]) ∧ ∀ base : Heap, (K w.params).In base → base.Ns mainGlobals mg → FnOk l.prog w (K w.params) mg base (L2.CX l.prog w) 10 fa fd ["_law_script"] (spLaw (K w.params))) :
    PySem.W.WalkO q loose XP YP l.row.toRowW d [] (fun f vs => PySem.call f vs) :=
  L2.walk_ofB (n := 63) (k := 10) (x := "_law_script") (CX := fun w => L2.CX l.prog w) (sp := fun w => spLaw (K w.params)) hn (by decide) hdf ⟨rfl, by decide, by decide⟩ hY F (fun _ _ a ns hl hb _ hS => ⟨a, ns, rfl, hS, hl, hb, fun _ => rfl⟩) fun w _ _ _ _ z => by obtain ⟨_, _, _, _, _, _, _, _, _, _, _, _, z⟩ := z; exact z

end
end Vi
open PySem PySem.W PyProof.Rows
set_option maxRecDepth 100000 in
set_option maxHeartbeats 0 in
theorem PySem.Challenge.cw_brooktally_k02_numbers_as_texts_holds : PySem.Challenge.rw_brooktally_k02_numbers_as_texts.Holds := by
  w_on; o_law; k_head; (case hw => w_witness2)
  k_fill
  refine Vi.walk (l := PySem.Challenge.rw_brooktally_k02_numbers_as_texts) rfl rfl (fun w h Y => PySem.W.kIn_of Y) ?F
  case F =>
    intro w mg fa h KX G hmg
    refine' Vi.all_mk KX G hmg ?a0 ?l0 ?c0 ?k0 ?a1 ?l1 ?c1 ?k1 ?a2 ?l2 ?c2 ?k2 ?a3 ?l3 ?c3 ?k3 ?a4 ?l4 ?c4 ?k4 ?a5 ?l5 ?c5 ?k5 ?a6 ?l6 ?c6 ?k6 ?a7 ?l7 ?c7 ?k7 ?a8 ?l8 ?c8 ?k8 ?z0 ?z1 ?z2 ?z3 ?z4 ?z5 ?z6 ?y0 ?y1 ?nl
    (case a0 => k_is)
    (case l0 => k_is)
    (case c0 => k_is)
    (case k0 => k_is)
    (case a1 => k_is)
    (case l1 => k_is)
    (case c1 => k_is)
    (case k1 => k_is)
    (case a2 => k_is)
    (case l2 => k_is)
    (case c2 => k_is)
    (case k2 => k_is)
    (case a3 => k_is)
    (case l3 => k_is)
    (case c3 => k_is)
    (case k3 => k_is)
    (case a4 => k_is)
    (case l4 => k_is)
    (case c4 => k_is)
    (case k4 => k_is)
    (case a5 => k_is)
    (case l5 => k_is)
    (case c5 => k_is)
    (case k5 => k_is)
    (case a6 => k_is)
    (case l6 => k_is)
    (case c6 => k_is)
    (case k6 => k_is)
    (case a7 => k_is)
    (case l7 => k_is)
    (case c7 => k_is)
    (case k7 => k_is)
    (case a8 => k_is)
    (case l8 => k_is)
    (case c8 => k_is)
    (case k8 => k_is)
    (case z0 => k_is)
    (case z1 => k_is)
    (case z2 => k_is)
    (case z3 => k_is)
    (case z4 => k_is)
    (case z5 => k_is)
    (case z6 => k_is)
    (case y0 => k_is)
    (case y1 => k_is)
    (case nl => rfl)

