import PyProof.Rows.All
import Wide.All
import OpenK.AllK
import Wide.FinOn
import HandS.ForMost
import HandS.ForExc
import HandS.Wide
import HandS.TupAny
import HandS.Style
import HandS.Text
import HandS.IsInst
import PyProof.Rows.StrMul
import HandS.NoneIn
import HandS.TupLe
import HandS.DictComp
import KE.SortData
import HandS.More
import HandS.SetKeys
import HandS.Rev
import PyProof.ListNew
import HandS.WordsDict
import HandS.RaiseMore
import HandS.Iter
import HandS.Zip
import HandS.RevRange
import HandS.List
import KE.KItem
import PyProof.SliceList
import HandS.ExcIs
import HandS.ExcField
import HandS.TryOnly
import HandS.ExcInit
import HandS.EndBits
import PySem.Challenge.RW_brooktally_k05_plans_looked_at
set_option Elab.async false
set_option linter.all false
set_option maxRecDepth 100000
namespace Vi
open PySem L2

/-- a value by its content; box i: the i-th box of the store -/
inductive D where
  | non | bl (b : Bool) | int (i : Int) | str (s : Str)
  | tup (xs : List D) | lst (xs : List D) | dct (kvs : List (D × D)) | box (i : Nat)
deriving Inhabited

def kD : Key → D
  | .inl i => .int i
  | .inr x => .str x
/-- a text that is one -/
def kOk : Key → Prop
  | .inl _ => True
  | .inr x => PyData.strOk x = true
def kDs (ks : List Key) : D := .tup (ks.map kD)

section
variable (F : Hp) (al : List Addr)
mutual
def Rp : D → V → Prop
  | .non, v => v = .non
  | .bl b, v => v = .bl b
  | .int i, v => v = .int i
  | .str s, v => v = .str s ∧ PyData.strOk s = true
  | .tup ds, v => ∃ a vs, v = .ref a ∧ F a = some (.tup vs) ∧ Rps ds vs
  | .lst ds, v => ∃ a vs, v = .ref a ∧ Rd F a (.lst vs) ∧ Rps ds vs
  | .dct kvs, v => ∃ a, v = .ref a ∧ ((∃ l, F a = some (.dK l) ∧ Rkv kvs l) ∨ (∃ l, F a = some (.dT l) ∧ Rkt kvs l))
  | .box i, v => ∃ a, al[i]? = some a ∧ v = .ref a
def Rps : List D → List V → Prop
  | [], vs => vs = []
  | d :: ds, vs => ∃ v r, vs = v :: r ∧ Rp d v ∧ Rps ds r
def Rkv : List (D × D) → List (Key × V) → Prop
  | [], l => l = []
  | (k, d) :: ds, l => ∃ kk v r, l = (kk, v) :: r ∧ k = kD kk ∧ (kOk kk ∧ Rp d v) ∧ Rkv ds r
/-- tuple keys: not empty (the empty dict is of the first kind) -/
def Rkt : List (D × D) → List (List Key × V) → Prop
  | [], _ => False
  | (k, d) :: ds, l => ∃ kk v r, l = (kk, v) :: r ∧ k = kDs kk ∧ Rp d v ∧ (ds = [] ∧ r = [] ∨ Rkt ds r)
end
end
end Vi

namespace Vi
open PySem L2

/-! ### the state -/
/-- what stands in a box: a list, a dict, an instance of the c-th class -/
inductive Bx where
  | lst (ds : List D) | dct (kvs : List (D × D)) | ins (c : Nat) (fs : List (Str × D)) | lkd (kvs : List (D × D))
/-- a local: no value; a value, whether its list or dict is the local's own; a caught exception; a list or dict that is only read (a parameter) -/
inductive Ent where
  | no | val (d : D) (own : Bool) | ex (c : Nat) (x : D) | bor (d : D)
abbrev Os := List Bx
structure Z where
  env : List Ent
  os : Os
/-- an outcome -/
inductive R (σ α : Type) where
  | ok (a : α) (s : σ) | exc (c : Nat) (x : D) (s : σ) | stuck
def R.bind {σ α β : Type} (r : R σ α) (f : α → σ → R σ β) : R σ β := match r with
  | .ok a s => f a s
  | .exc c x s => .exc c x s
  | .stuck => .stuck
theorem R.bind_ok {σ α β : Type} {a : α} {s : σ} {f : α → σ → R σ β} : (R.ok a s).bind f = f a s := rfl
theorem R.bind_exc {σ α β : Type} {c : Nat} {x : D} {s : σ} {f : α → σ → R σ β} : (R.exc c x s : R σ α).bind f = .exc c x s := rfl
theorem R.bind_stuck {σ α β : Type} {f : α → σ → R σ β} : (R.stuck : R σ α).bind f = .stuck := rfl

def D.cell : D → Bool
  | .lst _ => true
  | .dct _ => true
  | _ => false

/-! ### the relations -/
def Sub (F G : Hp) : Prop := ∀ a o, F a = some o → G a = some o
theorem Sub.refl (F : Hp) : Sub F F := fun _ _ h => h
theorem Sub.trans {F G I : Hp} (h : Sub F G) (h' : Sub G I) : Sub F I := fun a o e => h' a o (h a o e)
theorem Sub.rd {F G : Hp} (h : Sub F G) {a : Addr} {o : HO} (r : Rd F a o) : Rd G a o := by
  rcases r with r | ⟨u, r⟩
  · exact .inl (h _ _ r)
  · exact .inr ⟨u, h _ _ r⟩
theorem Sub.sqL {F G : Hp} (h : Sub F G) {a : Addr} {xs : List V} (r : SqL K F a xs) : SqL K G a xs := by
  rcases r with r | r
  · exact .inl (h.rd r)
  · exact .inr r
theorem Sub.sqT {F G : Hp} (h : Sub F G) {a : Addr} {xs : List V} (r : SqT K F a xs) : SqT K G a xs := by
  rcases r with r | r
  · exact .inl (h.rd r)
  · exact .inr r
def Pre (al al' : List Addr) : Prop := ∃ r, al' = al ++ r
theorem Pre.refl (al : List Addr) : Pre al al := ⟨[], by simp⟩
theorem Pre.trans {a b c : List Addr} (h : Pre a b) (h' : Pre b c) : Pre a c := by
  obtain ⟨r, rfl⟩ := h; obtain ⟨q, rfl⟩ := h'; exact ⟨r ++ q, by simp⟩
theorem Pre.get {a b : List Addr} (h : Pre a b) {i : Nat} {x : Addr} (e : a[i]? = some x) : b[i]? = some x := by
  obtain ⟨r, rfl⟩ := h
  rw [List.getElem?_append_left (List.getElem?_eq_some_iff.mp e).1]; exact e
theorem Pre.mem {a b : List Addr} (h : Pre a b) {x : Addr} (e : x ∈ a) : x ∈ b := by
  obtain ⟨r, rfl⟩ := h; exact List.mem_append_left _ e

section mono
variable {F G : Hp} {al al' : List Addr}
mutual
theorem Rp.mono (h : Sub F G) (p : Pre al al') : ∀ (d : D) (v : V), Rp F al d v → Rp G al' d v
  | .non, v, r => by simpa [Rp] using r
  | .bl b, v, r => by simpa [Rp] using r
  | .int i, v, r => by simpa [Rp] using r
  | .str s, v, r => by simpa [Rp] using r
  | .tup ds, v, r => by
    simp only [Rp] at r ⊢
    obtain ⟨a, vs, e, q, t⟩ := r
    exact ⟨a, vs, e, h _ _ q, Rps.mono h p ds vs t⟩
  | .lst ds, v, r => by
    simp only [Rp] at r ⊢
    obtain ⟨a, vs, e, q, t⟩ := r
    exact ⟨a, vs, e, h.rd q, Rps.mono h p ds vs t⟩
  | .dct kvs, v, r => by
    simp only [Rp] at r ⊢
    obtain ⟨a, e, q⟩ := r
    refine ⟨a, e, ?_⟩
    rcases q with ⟨l, q, t⟩ | ⟨l, q, t⟩
    · exact .inl ⟨l, h _ _ q, Rkv.mono h p kvs l t⟩
    · exact .inr ⟨l, h _ _ q, Rkt.mono h p kvs l t⟩
  | .box i, v, r => by
    simp only [Rp] at r ⊢
    obtain ⟨a, q, e⟩ := r
    exact ⟨a, p.get q, e⟩
theorem Rps.mono (h : Sub F G) (p : Pre al al') : ∀ (ds : List D) (vs : List V), Rps F al ds vs → Rps G al' ds vs
  | [], vs, r => by simpa [Rps] using r
  | d :: ds, vs, r => by
    simp only [Rps] at r ⊢
    obtain ⟨v, q, e, r1, r2⟩ := r
    exact ⟨v, q, e, Rp.mono h p d v r1, Rps.mono h p ds q r2⟩
theorem Rkv.mono (h : Sub F G) (p : Pre al al') : ∀ (ds : List (D × D)) (vs : List (Key × V)), Rkv F al ds vs → Rkv G al' ds vs
  | [], vs, r => by simpa [Rkv] using r
  | (k, d) :: ds, vs, r => by
    simp only [Rkv] at r ⊢
    obtain ⟨kk, v, q, e, ek, r1, r2⟩ := r
    exact ⟨kk, v, q, e, ek, ⟨r1.1, Rp.mono h p d v r1.2⟩, Rkv.mono h p ds q r2⟩
theorem Rkt.mono (h : Sub F G) (p : Pre al al') : ∀ (ds : List (D × D)) (vs : List (List Key × V)), Rkt F al ds vs → Rkt G al' ds vs
  | [], vs, r => by simp [Rkt] at r
  | (k, d) :: ds, vs, r => by
    simp only [Rkt] at r ⊢
    obtain ⟨kk, v, q, e, ek, r1, r2⟩ := r
    refine ⟨kk, v, q, e, ek, Rp.mono h p d v r1, ?_⟩
    rcases r2 with r2 | r2
    · exact .inl r2
    · exact .inr (Rkt.mono h p ds q r2)
end
end mono

theorem Rps.length {F : Hp} {al : List Addr} : ∀ {ds : List D} {vs : List V}, Rps F al ds vs → vs.length = ds.length
  | [], vs, r => by simp only [Rps] at r; subst r; rfl
  | d :: ds, vs, r => by
    simp only [Rps] at r
    obtain ⟨v, q, e, _, r2⟩ := r
    subst e; simp [Rps.length r2]
theorem Rps.nil {F : Hp} {al : List Addr} : Rps F al [] [] := by simp [Rps]
theorem Rps.cons {F : Hp} {al : List Addr} {d : D} {ds : List D} {v : V} {vs : List V} (h : Rp F al d v) (t : Rps F al ds vs) : Rps F al (d :: ds) (v :: vs) := by
  simp only [Rps]; exact ⟨v, vs, rfl, h, t⟩
theorem Rps.append {F : Hp} {al : List Addr} : ∀ {ds es : List D} {vs ws : List V}, Rps F al ds vs → Rps F al es ws → Rps F al (ds ++ es) (vs ++ ws)
  | [], es, vs, ws, r, q => by simp only [Rps] at r; subst r; exact q
  | d :: ds, es, vs, ws, r, q => by
    simp only [Rps] at r
    obtain ⟨v, u, e, r1, r2⟩ := r
    subst e
    exact Rps.cons r1 (Rps.append r2 q)
theorem Rps.get {F : Hp} {al : List Addr} : ∀ {ds : List D} {vs : List V} {i : Nat} {d : D}, Rps F al ds vs → ds[i]? = some d → ∃ v, vs[i]? = some v ∧ Rp F al d v
  | [], _, _, _, _, e => by simp at e
  | d :: ds, vs, 0, x, r, e => by
    simp only [Rps] at r
    obtain ⟨v, u, q, r1, r2⟩ := r
    simp at e; subst e; subst q
    exact ⟨v, rfl, r1⟩
  | d :: ds, vs, i + 1, x, r, e => by
    simp only [Rps] at r
    obtain ⟨v, u, q, r1, r2⟩ := r
    subst q
    obtain ⟨w, h1, h2⟩ := Rps.get (i := i) r2 (by simpa using e)
    exact ⟨w, by simpa using h1, h2⟩
theorem Rps.take {F : Hp} {al : List Addr} : ∀ {ds : List D} {vs : List V} (n : Nat), Rps F al ds vs → Rps F al (ds.take n) (vs.take n)
  | _, _, 0, _ => by simp [Rps]
  | [], vs, n + 1, r => by simp only [Rps] at r; subst r; simp [Rps]
  | d :: ds, vs, n + 1, r => by
    simp only [Rps] at r
    obtain ⟨v, u, q, r1, r2⟩ := r
    subst q
    exact Rps.cons r1 (Rps.take n r2)
theorem Rps.drop {F : Hp} {al : List Addr} : ∀ {ds : List D} {vs : List V} (n : Nat), Rps F al ds vs → Rps F al (ds.drop n) (vs.drop n)
  | _, _, 0, r => r
  | [], vs, n + 1, r => by simp only [Rps] at r; subst r; simp [Rps]
  | d :: ds, vs, n + 1, r => by
    simp only [Rps] at r
    obtain ⟨v, u, q, r1, r2⟩ := r
    subst q
    exact Rps.drop n r2
theorem Rps.reverse {F : Hp} {al : List Addr} : ∀ {ds : List D} {vs : List V}, Rps F al ds vs → Rps F al ds.reverse vs.reverse
  | [], vs, r => by simp only [Rps] at r; subst r; simp [Rps]
  | d :: ds, vs, r => by
    simp only [Rps] at r
    obtain ⟨v, u, q, r1, r2⟩ := r
    subst q
    rw [List.reverse_cons, List.reverse_cons]
    exact Rps.append (Rps.reverse r2) (Rps.cons r1 Rps.nil)
theorem Rps.set {F : Hp} {al : List Addr} {d : D} {v : V} (h : Rp F al d v) : ∀ {ds : List D} {vs : List V} (n : Nat), Rps F al ds vs → Rps F al (ds.set n d) (vs.set n v)
  | [], vs, n, r => by simp only [Rps] at r; subst r; simp [Rps]
  | e :: ds, vs, 0, r => by
    simp only [Rps] at r
    obtain ⟨w, u, q, r1, r2⟩ := r
    subst q
    exact Rps.cons h r2
  | e :: ds, vs, n + 1, r => by
    simp only [Rps] at r
    obtain ⟨w, u, q, r1, r2⟩ := r
    subst q
    exact Rps.cons r1 (Rps.set h n r2)

/-- the fields of an instance -/
def Rfs (F : Hp) (al : List Addr) : List (Str × D) → List (Str × V) → Prop := Paired fun p q => p.1 = q.1 ∧ Rp F al p.2 q.2
theorem Paired.imp {α β : Type} {P Q : α → β → Prop} (h : ∀ a b, P a b → Q a b) : ∀ {xs : List α} {ys : List β}, Paired P xs ys → Paired Q xs ys
  | _, _, .nil => .nil
  | _, _, .cons a t => .cons (h _ _ a) (Paired.imp h t)

/-- what stands at a, as a list or dict whose items are of F -/
def Cel (F : Hp) (al : List Addr) (H : Hp) (a : Addr) : D → Prop
  | .lst ds => ∃ vs, H a = some (.lst vs) ∧ Rps F al ds vs
  | .dct kvs => (∃ l, H a = some (.dK l) ∧ Rkv F al kvs l) ∨ (∃ l, H a = some (.dT l) ∧ Rkt F al kvs l)
  | _ => False
theorem Cel.mono {F G : Hp} {al al' : List Addr} {H H' : Hp} {a : Addr} {d : D} (h : Sub F G) (p : Pre al al') (e : ∀ o, H a = some o → H' a = some o) (c : Cel F al H a d) : Cel G al' H' a d := by
  cases d with
  | lst ds => obtain ⟨vs, q, r⟩ := c; exact ⟨vs, e _ q, Rps.mono h p _ _ r⟩
  | dct kvs =>
    rcases c with ⟨l, q, r⟩ | ⟨l, q, r⟩
    · exact .inl ⟨l, e _ q, Rkv.mono h p _ _ r⟩
    · exact .inr ⟨l, e _ q, Rkt.mono h p _ _ r⟩
  | _ => exact c.elim
theorem Cel.there {F : Hp} {al : List Addr} {H : Hp} {a : Addr} {d : D} (c : Cel F al H a d) : ∃ o, H a = some o := by
  cases d with
  | lst ds => obtain ⟨vs, q, r⟩ := c; exact ⟨_, q⟩
  | dct kvs =>
    rcases c with ⟨l, q, r⟩ | ⟨l, q, r⟩
    · exact ⟨_, q⟩
    · exact ⟨_, q⟩
  | _ => exact c.elim
theorem Cel.rp {F G : Hp} {al : List Addr} {H : Hp} {a : Addr} {d : D} (h : Sub F G) (e : ∀ o, H a = some o → G a = some o) (c : Cel F al H a d) : Rp G al d (.ref a) := by
  cases d with
  | lst ds =>
    obtain ⟨vs, q, r⟩ := c
    simp only [Rp]
    exact ⟨a, vs, rfl, .inl (e _ q), Rps.mono h (.refl _) _ _ r⟩
  | dct kvs =>
    simp only [Rp]
    refine ⟨a, rfl, ?_⟩
    rcases c with ⟨l, q, r⟩ | ⟨l, q, r⟩
    · exact .inl ⟨l, e _ q, Rkv.mono h (.refl _) _ _ r⟩
    · exact .inr ⟨l, e _ q, Rkt.mono h (.refl _) _ _ r⟩
  | _ => exact c.elim

/-- the written part and where the classes stand -/
structure Wd where
  cad : Nat → Addr
  m : Nat

def BxRel (cad : Nat → Addr) (lk : Addr → Obj × HO) (F : Hp) (al : List Addr) (H : Hp) (x : Bx) (a : Addr) : Prop := match x with
  | .lst ds => ∃ vs, H a = some (.lst vs) ∧ Rps F al ds vs
  | .dct kvs => (∃ l, H a = some (.dK l) ∧ Rkv F al kvs l) ∨ (∃ l, H a = some (.dT l) ∧ Rkt F al kvs l)
  | .ins c fs => ∃ dx fv, H a = some (.ins (cad c) dx fv) ∧ Rfs F al fs fv
  | .lkd kvs => H a = some (.frz (lk a).1 (lk a).2) ∧ ∃ l, (lk a).2 = .dK l ∧ Rkv F al kvs l
theorem BxRel.mono {cad : Nat → Addr} {lk : Addr → Obj × HO} {F G : Hp} {al al' : List Addr} {H H' : Hp} {x : Bx} {a : Addr} (h : Sub F G) (p : Pre al al') (e : ∀ o, H a = some o → H' a = some o) (c : BxRel cad lk F al H x a) : BxRel cad lk G al' H' x a := by
  cases x with
  | lst ds => obtain ⟨vs, q, r⟩ := c; exact ⟨vs, e _ q, Rps.mono h p _ _ r⟩
  | dct kvs =>
    rcases c with ⟨l, q, r⟩ | ⟨l, q, r⟩
    · exact .inl ⟨l, e _ q, Rkv.mono h p _ _ r⟩
    · exact .inr ⟨l, e _ q, Rkt.mono h p _ _ r⟩
  | ins c fs => obtain ⟨dx, fv, q, r⟩ := c; exact ⟨dx, fv, e _ q, Paired.imp (fun a b z => ⟨z.1, Rp.mono h p _ _ z.2⟩) r⟩
  | lkd kvs => obtain ⟨q, l, q2, r⟩ := c; exact ⟨e _ q, l, q2, Rkv.mono h p _ _ r⟩
theorem BxRel.there {cad : Nat → Addr} {lk : Addr → Obj × HO} {F : Hp} {al : List Addr} {H : Hp} {x : Bx} {a : Addr} (c : BxRel cad lk F al H x a) : ∃ o, H a = some o := by
  cases x with
  | lst ds => obtain ⟨vs, q, r⟩ := c; exact ⟨_, q⟩
  | dct kvs =>
    rcases c with ⟨l, q, r⟩ | ⟨l, q, r⟩
    · exact ⟨_, q⟩
    · exact ⟨_, q⟩
  | ins c fs => obtain ⟨dx, fv, q, r⟩ := c; exact ⟨_, q⟩
  | lkd kvs => exact ⟨_, c.1⟩

/-- the ghost: what is frozen, where the boxes stand -/
structure Gh where
  F : Hp
  al : List Addr
/-- the ghost and the heap at the def's entry -/
structure Bs where
  F : Hp
  al : List Addr
  H : Hp
  rs : List Addr   -- lists in the making (of comprehensions): nobody else's
  lk : Addr → Obj × HO   -- what locked boxes are

def Ent.owns : Ent → Bool
  | .val d fr => fr && d.cell
  | _ => false

/-- a value of its own at a: not frozen, in no box, not there at the entry -/
structure Own (w : Wd) (b : Bs) (g : Gh) (H : Hp) (d : D) (a : Addr) : Prop where
  nF : g.F a = none
  nB : a ∉ g.al
  nH : b.H a = none
  nR : a ∉ b.rs
  cl : Cel g.F g.al H a d
def ValRel (w : Wd) (b : Bs) (g : Gh) (H : Hp) (d : D) (fr : Bool) (v : V) : Prop :=
  if (fr && d.cell) = true then ∃ a, v = .ref a ∧ Own w b g H d a else Rp g.F g.al d v
/-- a list or dict that stands still since the entry -/
def Bor (b : Bs) (d : D) (v : V) : Prop := match d with
  | .lst ds => ∃ a vs, v = .ref a ∧ a ∉ b.al ∧ Rd b.H a (.lst vs) ∧ Rps b.F b.al ds vs
  | .dct kvs => ∃ a, v = .ref a ∧ a ∉ b.al ∧ ((∃ l, b.H a = some (.dK l) ∧ Rkv b.F b.al kvs l) ∨ (∃ l, b.H a = some (.dT l) ∧ Rkt b.F b.al kvs l))
  | _ => False
/-- what a caught exception carries: nothing, or a flat thing as its place -/
def XD (b : Bs) (d : Option Addr) (x : D) : Prop := (d = none ∧ x = .tup []) ∨ ∃ dd v, d = some dd ∧ b.H dd = some (.xd [("place", v)]) ∧ dd ∉ b.al ∧ ∀ F al, Rp F al x v
def EntRel (w : Wd) (b : Bs) (g : Gh) (H : Hp) (xr : Nat → Option Addr → V → Prop) (e : Ent) (o : Option (Option V)) : Prop := match e with
  | .no => True
  | .val d fr => ∃ v, o = some (some v) ∧ ValRel w b g H d fr v
  | .ex c x => ∃ v d, o = some (some v) ∧ xr c d v ∧ XD b d x
  | .bor d => ∃ v, o = some (some v) ∧ Bor b d v

/-- a slot's address -/
def sad (σ : St) (i : Nat) : Option Addr := match σ[i]? with
  | some (some (.ref a)) => some a
  | _ => none

structure Sim (w : Wd) (xr : Nat → Option Addr → V → Prop) (b : Bs) (g : Gh) (z : Z) (σ : St) (H : Hp) : Prop where
  sub : Sub g.F H
  new : ∀ a, g.F a ≠ none → b.F a ≠ none ∨ b.H a = none
  kept : ∀ a o, b.H a = some o → a ∉ b.al → H a = some o
  pF : Sub b.F g.F
  pre : Pre b.al g.al
  alnew : ∀ a ∈ g.al, a ∈ b.al ∨ b.H a = none
  alF : ∀ a ∈ g.al, g.F a = none
  nd : g.al.Nodup
  box : Paired (BxRel w.cad b.lk g.F g.al H) z.os g.al
  len : z.env.length = σ.length
  ln : σ.length = w.m
  ent : ∀ (i : Nat) (e : Ent), z.env[i]? = some e → EntRel w b g H xr e σ[i]?
  dis : ∀ (i j : Nat) (e e' : Ent), i ≠ j → z.env[i]? = some e → z.env[j]? = some e' → e.owns = true → e'.owns = true → sad σ i ≠ sad σ j
  rs : ∀ a ∈ b.rs, g.F a = none ∧ a ∉ g.al ∧ ∃ o, H a = some o

/-- one step of an expression, for who stands at (g, H) -/
structure Stp (g : Gh) (H : Hp) (g' : Gh) (H' : Hp) : Prop where
  F : Sub g.F g'.F
  al : Pre g.al g'.al
  alnew : ∀ a ∈ g'.al, a ∈ g.al ∨ H a = none
  keep : ∀ a o, H a = some o → a ∉ g.al → H' a = some o
theorem Stp.refl (g : Gh) (H : Hp) : Stp g H g H := ⟨.refl _, .refl _, fun a h => .inl h, fun a o h _ => h⟩
theorem Stp.trans {g g1 g2 : Gh} {H H1 H2 : Hp} (s : Stp g H g1 H1) (t : Stp g1 H1 g2 H2) : Stp g H g2 H2 where
  F := s.F.trans t.F
  al := s.al.trans t.al
  alnew := fun a h => by
    rcases t.alnew a h with q | q
    · exact s.alnew a q
    · by_cases ha : a ∈ g.al
      · exact .inl ha
      · refine .inr ?_
        cases e : H a with
        | none => rfl
        | some o => rw [s.keep a o e ha] at q; cases q
  keep := fun a o h n => t.keep a o (s.keep a o h n) fun q => by
    rcases s.alnew a q with z | z
    · exact n z
    · rw [h] at z; cases z

section
variable {w : Wd} {xr : Nat → Option Addr → V → Prop} {b : Bs} {g : Gh} {z : Z} {σ : St} {H : Hp}

theorem Paired.get_left {α β : Type} {P : α → β → Prop} : ∀ {xs : List α} {ys : List β} {i : Nat} {x : α}, Paired P xs ys → xs[i]? = some x → ∃ y, ys[i]? = some y ∧ P x y
  | _, _, _, _, .nil, e => by simp at e
  | _, _, 0, _, .cons a t, e => by simp at e; subst e; exact ⟨_, rfl, a⟩
  | _, _, i + 1, _, .cons a t, e => by
    obtain ⟨y, h1, h2⟩ := Paired.get_left (i := i) t (by simpa using e)
    exact ⟨y, by simpa using h1, h2⟩
theorem Paired.get_right {α β : Type} {P : α → β → Prop} : ∀ {xs : List α} {ys : List β} {i : Nat} {y : β}, Paired P xs ys → ys[i]? = some y → ∃ x, xs[i]? = some x ∧ P x y
  | _, _, _, _, .nil, e => by simp at e
  | _, _, 0, _, .cons a t, e => by simp at e; subst e; exact ⟨_, rfl, a⟩
  | _, _, i + 1, _, .cons a t, e => by
    obtain ⟨y, h1, h2⟩ := Paired.get_right (i := i) t (by simpa using e)
    exact ⟨y, by simpa using h1, h2⟩
theorem Paired.app {α β : Type} {P : α → β → Prop} : ∀ {xs xs' : List α} {ys ys' : List β}, Paired P xs ys → Paired P xs' ys' → Paired P (xs ++ xs') (ys ++ ys')
  | _, _, _, _, .nil, t => t
  | _, _, _, _, .cons a r, t => .cons a (Paired.app r t)
theorem Paired.setB {α β : Type} {P P' : α → β → Prop} {x : α} : ∀ {xs : List α} {ys : List β} {i : Nat} {y : β}, Paired P xs ys → ys[i]? = some y → ys.Nodup → P' x y → (∀ a b, b ≠ y → P a b → P' a b) → Paired P' (xs.set i x) ys
  | _, _, _, _, .nil, e, _, _, _ => by simp at e
  | _, _, 0, y, .cons a t, e, nd, h, k => by
    simp at e; subst e
    refine .cons h ?_
    have hn := (List.nodup_cons.mp nd).1
    exact Paired.impM t fun a b hb p => k a b (fun q => hn (q ▸ hb)) p
  | _, _, i + 1, y, .cons a t, e, nd, h, k => by
    have e' := e
    rw [List.getElem?_cons_succ] at e'
    have hn := (List.nodup_cons.mp nd).1
    refine .cons (k _ _ (fun q => hn ?_) a) (Paired.setB t e' (List.nodup_cons.mp nd).2 h k)
    rw [q]; exact List.mem_of_getElem? e'
where
  Paired.impM {α β : Type} {P Q : α → β → Prop} : ∀ {xs : List α} {ys : List β}, Paired P xs ys → (∀ a b, b ∈ ys → P a b → Q a b) → Paired Q xs ys
  | _, _, .nil, _ => .nil
  | _, _, .cons a t, h => .cons (h _ _ (by simp) a) (Paired.impM t fun a b hb p => h a b (List.mem_cons_of_mem _ hb) p)

theorem Sim.boxAt (S : Sim w xr b g z σ H) {i : Nat} {x : Bx} (e : z.os[i]? = some x) : ∃ a, g.al[i]? = some a ∧ BxRel w.cad b.lk g.F g.al H x a := Paired.get_left S.box e
theorem Sim.boxIn (S : Sim w xr b g z σ H) {a : Addr} (h : a ∈ g.al) : ∃ x, BxRel w.cad b.lk g.F g.al H x a := by
  obtain ⟨i, hi⟩ := List.getElem?_of_mem h
  obtain ⟨x, _, q⟩ := Paired.get_right S.box hi
  exact ⟨x, q⟩
theorem Sim.boxSome (S : Sim w xr b g z σ H) {a : Addr} (h : a ∈ g.al) : ∃ o, H a = some o := by
  obtain ⟨x, q⟩ := S.boxIn h
  obtain ⟨o, e⟩ := q.there
  exact ⟨o, e⟩
theorem Sim.freshF (S : Sim w xr b g z σ H) {p : Addr} (h : H p = none) : g.F p = none := by
  cases e : g.F p with
  | none => rfl
  | some o => rw [S.sub p o e] at h; cases h
theorem Sim.freshB (S : Sim w xr b g z σ H) {p : Addr} (h : H p = none) : p ∉ g.al := fun q => by
  obtain ⟨o, e⟩ := S.boxSome q
  rw [e] at h; cases h
theorem Sim.freshH (S : Sim w xr b g z σ H) {p : Addr} (h : H p = none) : b.H p = none := by
  cases e : b.H p with
  | none => rfl
  | some o =>
    by_cases hp : p ∈ b.al
    · exact absurd (S.pre.mem hp) (S.freshB h)
    · rw [S.kept p o e hp] at h; cases h

theorem Sim.freshR (S : Sim w xr b g z σ H) {p : Addr} (h : H p = none) : p ∉ b.rs := fun q => by
  obtain ⟨_, _, o, e⟩ := S.rs p q
  rw [e] at h; cases h

theorem Own.mono {g' : Gh} {H' : Hp} {d : D} {a : Addr} (o : Own w b g H d a) (s : Stp g H g' H') (nF : g'.F a = none) : Own w b g' H' d a := by
  obtain ⟨oo, e⟩ := o.cl.there
  refine ⟨nF, fun q => ?_, o.nH, o.nR, o.cl.mono s.F s.al fun u q => s.keep a u q o.nB⟩
  rcases s.alnew a q with z | z
  · exact o.nB z
  · rw [e] at z; cases z

/-- a new object is laid -/
theorem Stp.alloc {p : Addr} {o : HO} (h : H p = none) : Stp g H g (upd H p o) :=
  ⟨.refl _, .refl _, fun a h => .inl h, fun a u e _ => by rw [upd_ne (ne_of_none e h)]; exact e⟩
theorem Sim.alloc (S : Sim w xr b g z σ H) {p : Addr} {o : HO} (h : H p = none) : Sim w xr b g z σ (upd H p o) := by
  have k : ∀ a u, H a = some u → upd H p o a = some u := fun a u e => by rw [upd_ne (ne_of_none e h)]; exact e
  refine ⟨fun a u e => k a u (S.sub a u e), S.new, fun a u e n => k a u (S.kept a u e n), S.pF, S.pre, S.alnew, S.alF, S.nd, Paired.imp (fun x a q => q.mono (.refl _) (.refl _) (k a)) S.box, S.len, S.ln, fun i e he => ?_, S.dis, fun a ha => let ⟨h1, h2, o, h3⟩ := S.rs a ha; ⟨h1, h2, o, k a o h3⟩⟩
  have q := S.ent i e he
  cases e with
  | no => trivial
  | ex c x => exact q
  | bor d => exact q
  | val d fr =>
    obtain ⟨v, e1, e2⟩ := q
    refine ⟨v, e1, ?_⟩
    unfold ValRel at e2 ⊢
    split
    · rename_i hc
      rw [if_pos hc] at e2
      obtain ⟨a, ea, ow⟩ := e2
      exact ⟨a, ea, ow.mono (Stp.alloc h) ow.nF⟩
    · rename_i hc
      rw [if_neg hc] at e2
      exact e2
end
end Vi

namespace Vi
open PySem L2

section
variable {w : Wd} {xr : Nat → Option Addr → V → Prop} {b : Bs} {g : Gh} {z : Z} {σ : St} {H : Hp}

/-- no local owns a -/
def Off (z : Z) (σ : St) (a : Addr) : Prop := ∀ (i : Nat) (e : Ent), z.env[i]? = some e → e.owns = true → sad σ i ≠ some a

theorem EntRel.mono {g' : Gh} {H' : Hp} {e : Ent} {o : Option (Option V)} (q : EntRel w b g H xr e o) (s : Stp g H g' H') (n : ∀ a v, o = some (some v) → e.owns = true → v = .ref a → g'.F a = none) : EntRel w b g' H' xr e o := by
  cases e with
  | no => trivial
  | ex c x => exact q
  | bor d => exact q
  | val d fr =>
    obtain ⟨v, e1, e2⟩ := q
    refine ⟨v, e1, ?_⟩
    unfold ValRel at e2 ⊢
    split
    · rename_i hc
      rw [if_pos hc] at e2
      obtain ⟨a, ea, ow⟩ := e2
      exact ⟨a, ea, ow.mono s (n a v e1 hc ea)⟩
    · rename_i hc
      rw [if_neg hc] at e2
      exact Rp.mono s.F s.al _ _ e2
theorem Sim.ownAt (S : Sim w xr b g z σ H) {i : Nat} {d : D} {fr : Bool} (e : z.env[i]? = some (.val d fr)) (h : (fr && d.cell) = true) : ∃ a, σ[i]? = some (some (.ref a)) ∧ sad σ i = some a ∧ Own w b g H d a := by
  obtain ⟨v, e1, e2⟩ := S.ent i _ e
  unfold ValRel at e2
  rw [if_pos h] at e2
  obtain ⟨a, ea, ow⟩ := e2
  subst ea
  refine ⟨a, e1, ?_, ow⟩
  unfold sad; rw [e1]

def Hp.add (F H : Hp) (a : Addr) : Hp := fun c => if c = a then H a else F c
/-- a list or dict at a is frozen -/
theorem freeze_stp {a : Addr} (nF : g.F a = none) : Stp g H ⟨Hp.add g.F H a, g.al⟩ H where
  F := fun c o e => by
    show (if c = a then H a else g.F c) = some o
    rw [if_neg (fun q => by subst q; rw [nF] at e; cases e)]; exact e
  al := .refl _
  alnew := fun c h => .inl h
  keep := fun c o h _ => h
theorem Sim.freeze (S : Sim w xr b g z σ H) {d : D} {a : Addr} {env' : List Ent} (ow : Own w b g H d a) (hl : env'.length = z.env.length)
    (he : ∀ (i : Nat) (e : Ent), env'[i]? = some e → z.env[i]? = some e ∧ (e.owns = true → sad σ i ≠ some a) ∨ ∃ d', e = .val d' false ∧ sad σ i = some a ∧ d' = d) :
    Sim w xr b ⟨Hp.add g.F H a, g.al⟩ ⟨env', z.os⟩ σ H ∧ Rp (Hp.add g.F H a) g.al d (.ref a) := by
  have st : Stp g H ⟨Hp.add g.F H a, g.al⟩ H := freeze_stp ow.nF
  have hrp : Rp (Hp.add g.F H a) g.al d (.ref a) := ow.cl.rp (G := Hp.add g.F H a) st.F fun o e => by
    show (if a = a then H a else g.F a) = some o
    rw [if_pos rfl]; exact e
  refine ⟨⟨fun c o e => ?_, fun c hc => ?_, S.kept, S.pF.trans st.F, S.pre, S.alnew, fun c hc => ?_, S.nd, Paired.imp (fun x c q => q.mono st.F (.refl _) fun _ q => q) S.box, hl.trans S.len, S.ln, fun i e e1 => ?_, fun i j e e' hij e1 e2 o1 o2 => ?_, fun c hc => ?_⟩, hrp⟩
  · by_cases h : c = a
    · subst h
      have e' : (if c = c then H c else g.F c) = some o := e
      rw [if_pos rfl] at e'; exact e'
    · have e' : (if c = a then H a else g.F c) = some o := e
      rw [if_neg h] at e'; exact S.sub c o e'
  · by_cases h : c = a
    · subst h; exact .inr ow.nH
    · have e' : (if c = a then H a else g.F c) ≠ none := hc
      rw [if_neg h] at e'; exact S.new c e'
  · have h : c ≠ a := fun q => ow.nB (q ▸ hc)
    show (if c = a then H a else g.F c) = none
    rw [if_neg h]; exact S.alF c hc
  · rcases he i e e1 with ⟨q, n⟩ | ⟨d', rfl, q, rfl⟩
    · refine (S.ent i e q).mono st fun c v e3 o1 ev => ?_
      have h : c ≠ a := fun z1 => n o1 (by unfold sad; rw [e3, ev, z1])
      show (if c = a then H a else g.F c) = none
      rw [if_neg h]
      have := S.ent i e q
      cases e with
      | no => cases o1
      | ex c x => cases o1
      | bor d => cases o1
      | val d2 fr2 =>
        obtain ⟨a2, h1, h2, h3⟩ := S.ownAt q o1
        rw [h1] at e3; cases e3; cases ev
        exact h3.nF
    · have : σ[i]? = some (some (.ref a)) := by
        unfold sad at q
        split at q
        · rename_i a2 h2; cases q; exact h2
        · cases q
      refine ⟨.ref a, this, ?_⟩
      unfold ValRel
      rw [if_neg (by simp)]
      exact hrp
  · have a1 : z.env[i]? = some e := by
      rcases he i e e1 with ⟨q, n⟩ | ⟨d', rfl, q⟩
      · exact q
      · cases o1
    have a2 : z.env[j]? = some e' := by
      rcases he j e' e2 with ⟨q, n⟩ | ⟨d', rfl, q⟩
      · exact q
      · cases o2
    exact S.dis i j e e' hij a1 a2 o1 o2
  · obtain ⟨h1, h2, h3⟩ := S.rs c hc
    refine ⟨?_, h2, h3⟩
    show (if c = a then H a else g.F c) = none
    rw [if_neg (fun q : c = a => ow.nR (by rw [← q]; exact hc))]
    exact h1

/-- what an expression gives: of its own, or frozen; H0 the heap ahead of it -/
def Tmp (w : Wd) (b : Bs) (g : Gh) (z : Z) (σ : St) (H0 H : Hp) (d : D) (fr : Bool) (v : V) : Prop :=
  if (fr && d.cell) = true then ∃ a, v = .ref a ∧ Own w b g H d a ∧ Off z σ a ∧ H0 a = none else Rp g.F g.al d v
theorem Tmp.frozen {H0 : Hp} {d : D} {v : V} (h : Rp g.F g.al d v) : Tmp w b g z σ H0 H d false v := by
  unfold Tmp; rw [if_neg (by simp)]; exact h
theorem Tmp.flat {H0 : Hp} {d : D} {fr : Bool} {v : V} (hc : d.cell = false) (h : Rp g.F g.al d v) : Tmp w b g z σ H0 H d fr v := by
  unfold Tmp; rw [hc]; rw [if_neg (by simp)]; exact h
theorem Tmp.rp {H0 : Hp} {d : D} {v : V} (h : Tmp w b g z σ H0 H d false v) : Rp g.F g.al d v := by
  unfold Tmp at h; rw [if_neg (by simp)] at h; exact h
theorem Tmp.weak {H0 H1 : Hp} {d : D} {fr : Bool} {v : V} (h : Tmp w b g z σ H1 H d fr v) (k : ∀ a, H1 a = none → H0 a = none) : Tmp w b g z σ H0 H d fr v := by
  unfold Tmp at h ⊢
  split
  · rename_i hc; rw [if_pos hc] at h
    obtain ⟨a, e, o, f, n⟩ := h
    exact ⟨a, e, o, f, k a n⟩
  · rename_i hc; rw [if_neg hc] at h; exact h
theorem off_self (z : Z) (σ : St) {a : Addr} (h : Off z σ a) : ∀ (i : Nat) (e : Ent), z.env[i]? = some e → z.env[i]? = some e ∧ (e.owns = true → sad σ i ≠ some a) ∨ ∃ d', e = .val d' false ∧ sad σ i = some a ∧ d' = D.non :=
  fun i e q => .inl ⟨q, h i e q⟩
/-- a value that is not kept as one's own -/
theorem Tmp.freeze {H0 : Hp} {d : D} {fr : Bool} {v : V} (S : Sim w xr b g z σ H) (h : Tmp w b g z σ H0 H d fr v) : ∃ g', Stp g H g' H ∧ Sim w xr b g' z σ H ∧ Rp g'.F g'.al d v := by
  unfold Tmp at h
  split at h
  · obtain ⟨a, rfl, ow, f, n⟩ := h
    obtain ⟨S', r⟩ := S.freeze (env' := z.env) ow rfl fun i e q => .inl ⟨q, f i e q⟩
    exact ⟨_, freeze_stp ow.nF, S', r⟩
  · exact ⟨g, .refl _ _, S, h⟩
theorem Stp.none_of {g' : Gh} {H' : Hp} (S : Sim w xr b g z σ H) (s : Stp g H g' H') : ∀ a, H' a = none → a ∉ g.al → H a = none := fun a h n => by
  cases e : H a with
  | none => rfl
  | some o => rw [s.keep a o e n] at h; cases h
theorem Stp.fresh {g' : Gh} {H' : Hp} {z' : Z} {σ' : St} (S : Sim w xr b g' z' σ' H') (s : Stp g H g' H') : ∀ a, H' a = none → H a = none := fun a h => by
  cases e : H a with
  | none => rfl
  | some o =>
    by_cases n : a ∈ g.al
    · exact absurd (s.al.mem n) (S.freshB h)
    · rw [s.keep a o e n] at h; cases h

/-! ### what is wanted of an outcome -/
/-- a raised exception -/
def XR (cad : Nat → Addr) (g : Gh) (c : Nat) (x : D) (cls : Value) (dd : Option Addr) (H : Hp) : Prop :=
  cls = .ref (cad c) ∧ ((dd = none ∧ x = .tup []) ∨ ∃ d v, dd = some d ∧ H d = some (.xd [("place", v)]) ∧ g.F d = none ∧ ∀ F al, Rp F al x v)
def PostE (w : Wd) (xr : Nat → Option Addr → V → Prop) (W : WX) (b : Bs) (g : Gh) (σ : St) (H : Hp) (Q : VK) : R Z (D × Bool) → Prop
  | .ok a z' => ∀ g' v H', Stp g H g' H' → Sim w xr b g' z' σ H' → Tmp w b g' z' σ H H' a.1 a.2 v → Q v H'
  | .exc c x z' => ∀ g' cls dd H', Stp g H g' H' → Sim w xr b g' z' σ H' → XR w.cad g' c x cls dd H' → W cls dd σ H'
  | .stuck => False
/-- the same of a frozen value -/
def PostF (w : Wd) (xr : Nat → Option Addr → V → Prop) (W : WX) (b : Bs) (g : Gh) (σ : St) (H : Hp) (Q : VK) : R Z D → Prop
  | .ok d z' => ∀ g' v H', Stp g H g' H' → Sim w xr b g' z' σ H' → Rp g'.F g'.al d v → Q v H'
  | .exc c x z' => ∀ g' cls dd H', Stp g H g' H' → Sim w xr b g' z' σ H' → XR w.cad g' c x cls dd H' → W cls dd σ H'
  | .stuck => False
/-- the same of a value that is only read: its own cell may be anyone's, its items are frozen -/
def unbox (al : List Addr) (H : Hp) : Hp := fun a => if a ∈ al then none else H a
theorem unbox_of {al : List Addr} {a : Addr} {o : HO} (n : a ∉ al) (h : H a = some o) : unbox al H a = some o := by
  unfold unbox; rw [if_neg n]; exact h
theorem unbox_sub {al : List Addr} : Sub (unbox al H) H := fun a o e => by
  unfold unbox at e
  split at e
  · cases e
  · exact e
theorem of_unbox {al : List Addr} {a : Addr} {o : HO} (h : unbox al H a = some o) : a ∉ al ∧ H a = some o := by
  unfold unbox at h
  split at h
  · cases h
  · exact ⟨by assumption, h⟩
theorem Sim.subU (S : Sim w xr b g z σ H) : Sub g.F (unbox g.al H) := fun a o e => unbox_of (fun q => by rw [S.alF a q] at e; cases e) (S.sub a o e)
theorem Stp.unbox {g' : Gh} {H' : Hp} (s : Stp g H g' H') : Sub (Vi.unbox g.al H) (Vi.unbox g'.al H') := fun a o e => by
  obtain ⟨n, q⟩ := of_unbox e
  refine unbox_of (fun z => ?_) (s.keep a o q n)
  rcases s.alnew a z with z | z
  · exact n z
  · rw [q] at z; cases z
def Rb (w : Wd) (g : Gh) (H : Hp) (d : D) (v : V) : Prop := match d with
  | .lst ds => ∃ a vs, v = .ref a ∧ Rd (unbox g.al H) a (.lst vs) ∧ Rps g.F g.al ds vs
  | .dct kvs => ∃ a, v = .ref a ∧ ((∃ l, unbox g.al H a = some (.dK l) ∧ Rkv g.F g.al kvs l) ∨ (∃ l, unbox g.al H a = some (.dT l) ∧ Rkt g.F g.al kvs l))
  | d => Rp g.F g.al d v
theorem Rb.of (S : Sim w xr b g z σ H) {d : D} {v : V} (h : Rp g.F g.al d v) : Rb w g H d v := by
  cases d with
  | lst ds =>
    simp only [Rp] at h
    obtain ⟨a, vs, e, q, r⟩ := h
    exact ⟨a, vs, e, S.subU.rd q, r⟩
  | dct kvs =>
    simp only [Rp] at h
    obtain ⟨a, e, q⟩ := h
    refine ⟨a, e, ?_⟩
    rcases q with ⟨l, q, r⟩ | ⟨l, q, r⟩
    · exact .inl ⟨l, S.subU _ _ q, r⟩
    · exact .inr ⟨l, S.subU _ _ q, r⟩
  | _ => exact h
theorem Sim.borAt (S : Sim w xr b g z σ H) {a : Addr} {o : HO} (h : b.H a = some o) (n : a ∉ b.al) : unbox g.al H a = some o := by
  refine unbox_of (fun q => ?_) (S.kept a o h n)
  rcases S.alnew a q with q | q
  · exact n q
  · rw [h] at q; cases q
theorem Bor.rb (S : Sim w xr b g z σ H) {d : D} {v : V} (h : Bor b d v) : Rb w g H d v := by
  cases d with
  | lst ds =>
    obtain ⟨a, vs, e, n, q, r⟩ := h
    refine ⟨a, vs, e, ?_, Rps.mono S.pF S.pre _ _ r⟩
    rcases q with q | ⟨u, q⟩
    · exact .inl (S.borAt q n)
    · exact .inr ⟨u, S.borAt q n⟩
  | dct kvs =>
    obtain ⟨a, e, n, q⟩ := h
    refine ⟨a, e, ?_⟩
    rcases q with ⟨l, q, r⟩ | ⟨l, q, r⟩
    · exact .inl ⟨l, S.borAt q n, Rkv.mono S.pF S.pre _ _ r⟩
    · exact .inr ⟨l, S.borAt q n, Rkt.mono S.pF S.pre _ _ r⟩
  | _ => exact h.elim
theorem Rb.own {d : D} {a : Addr} (o : Own w b g H d a) : Rb w g H d (.ref a) := by
  have c := o.cl
  cases d with
  | lst ds =>
    obtain ⟨vs, q, r⟩ := c
    exact ⟨a, vs, rfl, .inl (unbox_of o.nB q), r⟩
  | dct kvs =>
    refine ⟨a, rfl, ?_⟩
    rcases c with ⟨l, q, r⟩ | ⟨l, q, r⟩
    · exact .inl ⟨l, unbox_of o.nB q, r⟩
    · exact .inr ⟨l, unbox_of o.nB q, r⟩
  | _ => exact c.elim
theorem Rb.tmp (S : Sim w xr b g z σ H) {H0 : Hp} {d : D} {fr : Bool} {v : V} (h : Tmp w b g z σ H0 H d fr v) : Rb w g H d v := by
  unfold Tmp at h
  split at h
  · obtain ⟨a, rfl, ow, _⟩ := h
    exact Rb.own ow
  · exact Rb.of S h
theorem Rb.mono {g' : Gh} {H' : Hp} {d : D} {v : V} (s : Stp g H g' H') (h : Rb w g H d v) : Rb w g' H' d v := by
  cases d with
  | lst ds =>
    obtain ⟨a, vs, e, q, r⟩ := h
    exact ⟨a, vs, e, s.unbox.rd q, Rps.mono s.F s.al _ _ r⟩
  | dct kvs =>
    obtain ⟨a, e, q⟩ := h
    refine ⟨a, e, ?_⟩
    rcases q with ⟨l, q, r⟩ | ⟨l, q, r⟩
    · exact .inl ⟨l, s.unbox _ _ q, Rkv.mono s.F s.al _ _ r⟩
    · exact .inr ⟨l, s.unbox _ _ q, Rkt.mono s.F s.al _ _ r⟩
  | _ => exact Rp.mono s.F s.al _ _ h
def PostB (w : Wd) (xr : Nat → Option Addr → V → Prop) (W : WX) (b : Bs) (g : Gh) (σ : St) (H : Hp) (Q : VK) : R Z D → Prop
  | .ok d z' => ∀ g' v H', Stp g H g' H' → Sim w xr b g' z' σ H' → Rb w g' H' d v → Q v H'
  | .exc c x z' => ∀ g' cls dd H', Stp g H g' H' → Sim w xr b g' z' σ H' → XR w.cad g' c x cls dd H' → W cls dd σ H'
  | .stuck => False
end

/-- later -/
structure Le (g g' : Gh) : Prop where
  F : Sub g.F g'.F
  al : Pre g.al g'.al
theorem Le.refl (g : Gh) : Le g g := ⟨.refl _, .refl _⟩
theorem Le.trans {a b c : Gh} (h : Le a b) (h' : Le b c) : Le a c := ⟨h.F.trans h'.F, h.al.trans h'.al⟩
theorem Stp.le {g g' : Gh} {H H' : Hp} (s : Stp g H g' H') : Le g g' := ⟨s.F, s.al⟩
/-- what stands still until the end -/
def Rst (w : Wd) (xr : Nat → Option Addr → V → Prop) (b : Bs) (g : Gh) (d : D) (v : V) : Prop := ∀ g2 z2 σ2 H2, Le g g2 → Sim w xr b g2 z2 σ2 H2 → Rb w g2 H2 d v
theorem Rst.of {w : Wd} {xr : Nat → Option Addr → V → Prop} {b : Bs} {g : Gh} {d : D} {v : V} (h : Rp g.F g.al d v) : Rst w xr b g d v := fun g2 z2 σ2 H2 l S => Rb.of S (Rp.mono l.F l.al _ _ h)
theorem Rst.mono {w : Wd} {xr : Nat → Option Addr → V → Prop} {b : Bs} {g g' : Gh} {d : D} {v : V} (l : Le g g') (h : Rst w xr b g d v) : Rst w xr b g' d v := fun g2 z2 σ2 H2 l2 S => h g2 z2 σ2 H2 (l.trans l2) S
def PostN (w : Wd) (xr : Nat → Option Addr → V → Prop) (W : WX) (b : Bs) (g : Gh) (σ : St) (H : Hp) (Q : VK) : R Z D → Prop
  | .ok d z' => ∀ g' v H', Stp g H g' H' → Sim w xr b g' z' σ H' → Rst w xr b g' d v → Q v H'
  | .exc c x z' => ∀ g' cls dd H', Stp g H g' H' → Sim w xr b g' z' σ H' → XR w.cad g' c x cls dd H' → W cls dd σ H'
  | .stuck => False
def SndN (w : Wd) (xr : Nat → Option Addr → V → Prop) (X : Cx) (W : WX) (e : Expr) (f : Z → R Z D) : Prop :=
  ∃ t, PE X e t ∧ ∀ b g z σ H Q, Sim w xr b g z σ H → PostN w xr W b g σ H Q (f z) → t σ H Q
/-- e does what f says -/
def SndE (w : Wd) (xr : Nat → Option Addr → V → Prop) (X : Cx) (W : WX) (e : Expr) (f : Z → R Z (D × Bool)) : Prop :=
  ∃ t, PE X e t ∧ ∀ b g z σ H Q, Sim w xr b g z σ H → PostE w xr W b g σ H Q (f z) → t σ H Q
def SndF (w : Wd) (xr : Nat → Option Addr → V → Prop) (X : Cx) (W : WX) (e : Expr) (f : Z → R Z D) : Prop :=
  ∃ t, PE X e t ∧ ∀ b g z σ H Q, Sim w xr b g z σ H → PostF w xr W b g σ H Q (f z) → t σ H Q
def SndB (w : Wd) (xr : Nat → Option Addr → V → Prop) (X : Cx) (W : WX) (e : Expr) (f : Z → R Z D) : Prop :=
  ∃ t, PE X e t ∧ ∀ b g z σ H Q, Sim w xr b g z σ H → PostB w xr W b g σ H Q (f z) → t σ H Q
def fst1 (r : R Z (D × Bool)) : R Z D := r.bind fun a z => .ok a.1 z
section
variable {w : Wd} {xr : Nat → Option Addr → V → Prop} {X : Cx} {W : WX} {e : Expr} {f : Z → R Z (D × Bool)}
theorem SndE.F (h : SndE w xr X W e f) : SndF w xr X W e fun z => fst1 (f z) := by
  obtain ⟨t, p, q⟩ := h
  refine ⟨t, p, fun b g z σ H Q S k => q b g z σ H Q S ?_⟩
  simp only [fst1] at k
  cases r : f z with
  | ok a z' =>
    rw [r] at k
    intro g' v H' st S' tm
    obtain ⟨g2, st2, S2, rp⟩ := tm.freeze S'
    exact k g2 v H' (st.trans st2) S2 rp
  | exc c x z' => rw [r] at k; exact k
  | stuck => rw [r] at k; exact k
theorem SndE.B (h : SndE w xr X W e f) : SndB w xr X W e fun z => fst1 (f z) := by
  obtain ⟨t, p, q⟩ := h
  refine ⟨t, p, fun b g z σ H Q S k => q b g z σ H Q S ?_⟩
  simp only [fst1] at k
  cases r : f z with
  | ok a z' =>
    rw [r] at k
    intro g' v H' st S' tm
    exact k g' v H' st S' (Rb.tmp S' tm)
  | exc c x z' => rw [r] at k; exact k
  | stuck => rw [r] at k; exact k
theorem SndF.N {f : Z → R Z D} (h : SndF w xr X W e f) : SndN w xr X W e f := by
  obtain ⟨t, p, q⟩ := h
  refine ⟨t, p, fun b g z σ H Q S k => q b g z σ H Q S ?_⟩
  cases r : f z with
  | ok a z' =>
    rw [r] at k
    exact fun g' v H' st S' tm => k g' v H' st S' (Rst.of tm)
  | exc c x z' => rw [r] at k; exact k
  | stuck => rw [r] at k; exact k
theorem SndF.B {f : Z → R Z D} (h : SndF w xr X W e f) : SndB w xr X W e f := by
  obtain ⟨t, p, q⟩ := h
  refine ⟨t, p, fun b g z σ H Q S k => q b g z σ H Q S ?_⟩
  cases r : f z with
  | ok a z' =>
    rw [r] at k
    intro g' v H' st S' tm
    exact k g' v H' st S' (Rb.of S' tm)
  | exc c x z' => rw [r] at k; exact k
  | stuck => rw [r] at k; exact k
end
end Vi

namespace Vi
open PySem L2

/-! ### the small language -/
inductive Bop where
  | add | sub | mul | fdiv | mod | pow
deriving DecidableEq
inductive Cop where
  | eq | ne | lt | le | gt | ge | isin | notin | is | isnot
deriving DecidableEq
inductive Fn where
  | len | abs | int | str | list | tuple | sorted | sum | min | max | sset | dict
deriving DecidableEq
/-- what isinstance asks for -/
inductive Ty where
  | int | bool | str | list | tuple | own (c : Nat) | verr
deriving DecidableEq
inductive ItK where
  | val | range | enum | zip | rev | keys
deriving DecidableEq
/-- methods of texts, lists and dicts that change nothing -/
inductive Mt where
  | join | find | split | index
deriving DecidableEq
inductive Tg where
  | nm (i : Nat) | tp (ts : List Tg) | tl (ts : List Tg)
inductive E where
  | c (d : D) | v (i : Nat) | b (i : Nat) | w (i : Nat)
  | tup (es : List E) | lst (es : List E) | dct (es : List E)
  | box (e : E)
  | bin (o : Bop) (a b : E) | neg (a : E) | not (a : E)
  | cmp (o : Cop) (a b : E) | chain (o o' : Cop) (a b c : E)
  | and (a b : E) | or (a b : E) | ite (c a b : E)
  | ix (a i : E) | sl (a : E) (lo hi : List E) | rev (a : E)
  | fld (a : E) (f : Str)
  | call (f : Nat) (es : List E) | mk (c f : Nat) (es : List E) | om (c : Nat) (m : Str) (f : Nat) (o : E) (es : List E) | meth (m : Mt) (o : E) (es : List E)
  | get (o k d : E) | popD (o k d : E)
  | isx (x : Nat) (cs : List Nat) | xpl (x : Nat)
  | fn (f : Fn) (es : List E)
  | isi (e : E) (ts : List Ty)
  | comp (elt : E) (tg : Tg) (k : ItK) (src : List E) (cond : List E)
inductive S where
  | set (t : Tg) (e : E)
  | setIx (o i e : E) | setF (o : E) (f : Str) (e : E)
  | setV (x : Nat) (i e : E) | setD (x : Nat) (k e : E)
  | setSl (x : Nat) (lo hi : List E) (e : E)
  | mut (m : Str) (x : Nat) (es : List E) | mutE (m : Str) (o : E) (es : List E)
  | sdApp (x : Nat) (k e : E)
  | expr (e : E)
  | ifS (c : E) (a b : List S)
  | whl (c : E) (a : List S)
  | for (t : Tg) (k : ItK) (src : List E) (a : List S)
  | ret (e : E) | retN | cont | pass
  | raise (c : Nat) | raiseP (c : Nat) (e : E)
  | tryE (a : List S) (c : Nat) (x : Nat) (h : List S)
inductive Fl where
  | next | ret (d : D) (fr : Bool) | cont

/-! ### operations on data -/
def rdL (os : Os) : D → Option (List D)
  | .lst ds => some ds
  | .box i => match os[i]? with
    | some (.lst ds) => some ds
    | _ => none
  | _ => none
def mulOk (i j : Int) : Bool := decide (i.natAbs.log2 + j.natAbs.log2 < 100000000)
def signs (s : Str) : List D := s.cps.toList.map fun c => .str ⟨#[c]⟩
/-- a text k times -/
def repS (s : Str) (k : Nat) : Str := ⟨(List.replicate k s.cps.toList).flatten.toArray⟩
def RepOk (s : Str) (k : Int) : Prop := s.length * k.toNat ≤ 1000000 ∧ k < 1000000 ∧ -1000000 < k
def RepL (ds : List D) (k : Int) : Prop := ds.length * k.toNat ≤ 1000000 ∧ k < 1000000 ∧ -1000000 < k
def PowOk (i j : Int) : Prop := 0 ≤ j ∧ j ≤ 1000000 ∧ i.natAbs < 2 ^ 64
noncomputable section
open Classical in
def binD (o : Bop) (os : Os) (x y : D) : Option (D × Bool) := match o with
  | .add => match x, y with
    | .int i, .int j => some (.int (i + j), false)
    | .str s, .str t => if s.length + t.length ≤ sizeLine then some (.str (s ++ t), false) else none
    | .tup ds, .tup es => if ds.length + es.length ≤ sizeLine then some (.tup (ds ++ es), false) else none
    | x, y => match rdL os x, rdL os y with
      | some ds, some es => if ds.length + es.length ≤ sizeLine then some (.lst (ds ++ es), true) else none
      | _, _ => none
  | .sub => match x, y with
    | .int i, .int j => some (.int (i - j), false)
    | _, _ => none
  | .mul => match x, y with
    | .int i, .int j => if mulOk i j then some (.int (i * j), false) else none
    | .str s, .int k => if RepOk s k then some (.str (repS s k.toNat), false) else none
    | x, .int k => match rdL os x with
      | some ds => if RepL ds k then some (.lst (List.replicate k.toNat ds).flatten, true) else none
      | none => none
    | _, _ => none
  | .fdiv => match x, y with
    | .int i, .int j => if 0 < j ∧ j.natAbs.log2 < 9000 then some (.int (i / j), false) else none
    | _, _ => none
  | .mod => match x, y with
    | .int i, .int j => if 0 < j then some (.int (i % j), false) else none
    | _, _ => none
  | .pow => match x, y with
    | .int i, .int j => if PowOk i j then some (.int (i ^ j.toNat), false) else none
    | _, _ => none

end
/-! equality: by content -/
mutual
def eqD : D → D → Bool
  | .non, .non => true
  | .bl a, .bl b => a == b
  | .bl a, .int j => (if a then 1 else 0) == j
  | .int i, .bl b => i == (if b then 1 else 0)
  | .int i, .int j => i == j
  | .str x, .str y => decide (x = y)
  | .lst xs, .lst ys => eqDs xs ys
  | .tup xs, .tup ys => eqDs xs ys
  | _, _ => false
def eqDs : List D → List D → Bool
  | [], [] => true
  | x :: xs, y :: ys => eqD x y && eqDs xs ys
  | _, _ => false
end
mutual
/-- how deep, at most; none where == is not served -/
def dep : D → Option Nat
  | .lst xs => (deps xs).map (· + 1)
  | .tup xs => (deps xs).map (· + 1)
  | .dct _ => none
  | .box _ => none
  | _ => some 0
def deps : List D → Option Nat
  | [] => some 0
  | x :: xs => match dep x, deps xs with
    | some a, some b => some (max a b)
    | _, _ => none
end
def D.flat : D → Bool
  | .non => true
  | .bl _ => true
  | .int _ => true
  | .str _ => true
  | _ => false
/-- s has t as a part -/
def hasS (s t : Str) : Bool := !(Builtin.Str.occurrences s t 0 s.length 1).isEmpty
def hasKey (x : D) (kvs : List (D × D)) : Bool := kvs.any fun p => eqD p.1 x
def keyOk : D → Bool
  | .int _ => true
  | .str _ => true
  | _ => false
/-- in a list or tuple of tuples and the like -/
def inX (x : D) (ds : List D) : Option Bool := match dep x, deps ds with
  | some m, some n => if m ≤ 50 ∧ n ≤ 50 then some (ds.any fun d => eqD d x) else none
  | _, _ => none
def inD (os : Os) (x y : D) : Option Bool := match y with
  | .str t => match x with
    | .str s => some (hasS t s)
    | _ => none
  | .tup ds => if x.flat && ds.all D.flat then some (ds.any fun d => eqD d x) else inX x ds
  | .lst ds => if x.flat && ds.all D.flat then some (ds.any fun d => eqD d x) else inX x ds
  | .dct kvs => if keyOk x && kvs.all fun p => keyOk p.1 then some (hasKey x kvs) else none
  | .box i => match os[i]? with
    | some (.lst ds) => if x.flat && ds.all D.flat then some (ds.any fun d => eqD d x) else inX x ds
    | some (.dct kvs) => if keyOk x && kvs.all fun p => keyOk p.1 then some (hasKey x kvs) else none
    | some (.lkd kvs) => if keyOk x && kvs.all fun p => keyOk p.1 then some (hasKey x kvs) else none
    | _ => none
  | _ => none
/-! ### order -/
mutual
def ltD : D → D → Bool
  | .int i, .int j => decide (i < j)
  | .str s, .str t => decide (s.cps.toList < t.cps.toList)
  | .tup xs, .tup ys => ltDs xs ys
  | _, _ => false
def ltDs : List D → List D → Bool
  | [], [] => false
  | [], _ :: _ => true
  | _ :: _, [] => false
  | x :: xs, y :: ys => if eqD x y then ltDs xs ys else ltD x y
end
/-- what is sorted: of one shape all -/
inductive Sh where
  | i | s | t (l : List Sh)
mutual
def hasSh : Sh → D → Bool
  | .i, .int _ => true
  | .s, .str _ => true
  | .t l, .tup ds => hasShs l ds
  | _, _ => false
def hasShs : List Sh → List D → Bool
  | [], [] => true
  | a :: l, d :: ds => hasSh a d && hasShs l ds
  | _, _ => false
end
mutual
def Sh.dep : Sh → Nat
  | .i => 0
  | .s => 0
  | .t l => depSs l + 1
def depSs : List Sh → Nat
  | [] => 0
  | a :: l => max a.dep (depSs l)
end
def Sh.okT : Sh → Bool
  | .t [] => false
  | _ => true
/-- a list that can be sorted -/
def SortOk (ds : List D) : Prop := ∃ a : Sh, a.dep ≤ 50 ∧ a.okT = true ∧ ∀ d ∈ ds, hasSh a d = true
/-- two that can be compared -/
def OrdOk (x y : D) : Prop := ∃ a : Sh, a.dep ≤ 50 ∧ hasSh a x = true ∧ hasSh a y = true
def insD (x : D) : List D → List D
  | [] => [x]
  | y :: l => if ltD y x then y :: insD x l else x :: y :: l
def sortD : List D → List D
  | [] => []
  | x :: l => insD x (sortD l)
/-- the keys of a dict, as data -/
def keysO (os : Os) : D → Option (List D)
  | .dct kvs => if kvs.all fun p => keyOk p.1 then some (kvs.map (·.1)) else none
  | .box i => match os[i]? with
    | some (.dct kvs) => if kvs.all fun p => keyOk p.1 then some (kvs.map (·.1)) else none
    | some (.lkd kvs) => if kvs.all fun p => keyOk p.1 then some (kvs.map (·.1)) else none
    | _ => none
  | _ => none
def dctO (os : Os) : D → Option (List (D × D))
  | .dct kvs => some kvs
  | .box i => match os[i]? with
    | some (.dct kvs) => some kvs
    | some (.lkd kvs) => some kvs
    | _ => none
  | _ => none
def putD (k y : D) (kvs : List (D × D)) : List (D × D) := if kvs.any (fun p => eqD p.1 k) then kvs.map (fun p => if eqD p.1 k then (p.1, y) else p) else kvs ++ [(k, y)]
def delD (k : D) (kvs : List (D × D)) : List (D × D) := kvs.filter fun p => !eqD p.1 k
def pairUp : List D → Option (List (D × D))
  | [] => some []
  | k :: v :: r => (pairUp r).map ((k, v) :: ·)
  | _ => none
def lookD (kvs : List (D × D)) (k : D) : Option D := (kvs.find? fun p => eqD p.1 k).map (·.2)
/-- two dicts of the same keys with equal values -/
def eqDct (os : Os) (x y : D) : Bool := match dctO os x, dctO os y with
  | some ks, some ls => ks.all (fun p => keyOk p.1) && ls.all (fun p => keyOk p.1) && decide (ks.length = ls.length) && ks.all fun p => match lookD ls p.1 with
    | some u => eqD p.2 u && (match dep p.2, dep u with
      | some a, some b => decide (a ≤ 50) && decide (b ≤ 50)
      | _, _ => false)
    | none => false
  | _, _ => false
def snap (os : Os) (x : D) : D := match x with
  | .box i => match os[i]? with
    | some (.lst ds) => .lst ds
    | _ => x
  | x => x
mutual
/-- boxes of lists read, one level deep -/
def ex1 (os : Os) : D → D
  | .lst ds => .lst (ex1s os ds)
  | .tup ds => .tup (ex1s os ds)
  | .box i => match os[i]? with
    | some (.lst ds) => .lst ds
    | _ => .box i
  | d => d
def ex1s (os : Os) : List D → List D
  | [] => []
  | d :: ds => ex1 os d :: ex1s os ds
end
def ex3 (os : Os) (d : D) : D := ex1 os (ex1 os (ex1 os d))
def eqX (os : Os) (x y : D) : Option Bool := match dep (ex3 os x), dep (ex3 os y) with
  | some a, some b => if a ≤ 60 ∧ b ≤ 60 then some (eqD (ex3 os x) (ex3 os y)) else none
  | _, _ => none
noncomputable section
open Classical in
def cmpD (o : Cop) (os : Os) (x y : D) : Option Bool := match o with
  | .eq => match dep (snap os x), dep (snap os y) with
    | some a, some b => if a ≤ 60 ∧ b ≤ 60 then some (eqD (snap os x) (snap os y)) else none
    | _, _ => if eqDct os x y = true then some true else eqX os x y
  | .ne => match dep (snap os x), dep (snap os y) with
    | some a, some b => if a ≤ 60 ∧ b ≤ 60 then some (!eqD (snap os x) (snap os y)) else none
    | _, _ => if eqDct os x y = true then some false else (eqX os x y).map (! ·)
  | .lt => match x, y with
    | .int i, .int j => some (decide (i < j))
    | x, y => if OrdOk x y then some (ltD x y) else none
  | .le => match x, y with
    | .int i, .int j => some (decide (i ≤ j))
    | x, y => if OrdOk x y then some (!ltD y x) else none
  | .gt => match x, y with
    | .int i, .int j => some (decide (j < i))
    | x, y => if OrdOk x y then some (ltD y x) else none
  | .ge => match x, y with
    | .int i, .int j => some (decide (j ≤ i))
    | x, y => if OrdOk x y then some (!ltD x y) else none
  | .isin => inD os x y
  | .notin => (inD os x y).map (! ·)
  | .is => match x, y with
    | .non, .non => some true
    | _, .non => some false
    | .bl a, .bl b => some (a == b)
    | _, _ => none
  | .isnot => match x, y with
    | .non, .non => some false
    | _, .non => some true
    | .bl a, .bl b => some (a != b)
    | _, _ => none
end

def getD (kvs : List (D × D)) (i : D) : Option D := if keyOk i && kvs.all fun p => keyOk p.1 then (kvs.find? fun p => eqD p.1 i).map (·.2) else none
def ixD (os : Os) (x i : D) : Option D := match x with
  | .tup ds => match i with
    | .int k => atI ds k
    | _ => none
  | .lst ds => match i with
    | .int k => atI ds k
    | _ => none
  | .str s => match i with
    | .int k => if s.length ≤ sizeLine then (atI s.cps.toList k).map fun c => .str ⟨#[c]⟩ else none
    | _ => none
  | .dct kvs => getD kvs i
  | .box j => match os[j]? with
    | some (.lst ds) => match i with
      | .int k => atI ds k
      | _ => none
    | some (.dct kvs) => getD kvs i
    | some (.lkd kvs) => getD kvs i
    | _ => none
  | _ => none
def cutD {α : Type} (xs : List α) (lo hi : Option Int) : List α := (xs.drop (HT.sIx xs.length 0 lo)).take (HT.sIx xs.length xs.length hi - HT.sIx xs.length 0 lo)
def intO : List D → Option (Option Int)
  | [] => some none
  | [.int i] => some (some i)
  | _ => none
def slD (os : Os) (x : D) (lo hi : Option Int) : Option (D × Bool) := match x with
  | .tup ds => some (.tup (cutD ds lo hi), false)
  | .str s => if s.length ≤ sizeLine then some (.str ⟨(cutD s.cps.toList lo hi).toArray⟩, false) else none
  | x => match rdL os x with
    | some ds => some (.lst (cutD ds lo hi), true)
    | none => none
def strsO : List D → Option (List Str)
  | [] => some []
  | .str s :: r => (strsO r).map (s :: ·)
  | _ :: _ => none
def seqO (os : Os) (x : D) : Option (List D) := match x with
  | .tup ds => some ds
  | x => rdL os x
def mtName : Mt → Str
  | .join => "join"
  | .find => "find"
  | .split => "split"
  | .index => "index"
def mtTy : Mt → String
  | .join => "str"
  | .find => "str"
  | .split => "str"
  | .index => "list"
def mtOk (m : Mt) (os : Os) (x : D) : Bool := match m with
  | .index => (rdL os x).isSome
  | _ => match x with
    | .str _ => true
    | _ => false
def JoinSz (a : Str) (ss : List Str) : Prop := (ss.map (·.length)).sum + ss.length * a.length ≤ 16777216
def SplitSz (a b : Str) : Prop := (b.length == 0) = false ∧ a.length + 2 ≤ sizeLine
noncomputable section
open Classical in
def methD (m : Mt) (os : Os) (x : D) (ys : List D) : Option (D × Bool) := match m, x, ys with
  | .join, .str a, [y] => match (seqO os y).bind strsO with
    | some ss => if JoinSz a ss then some (.str (Txt.join a ss), false) else none
    | none => none
  | .find, .str a, [.str b] => some (.int (Txt.find a b), false)
  | .split, .str a, [.str b] => if SplitSz a b then some (.lst ((Txt.split a b).map D.str), true) else none
  | .index, x, [y] => match rdL os x with
    | some ds => if y.flat && ds.all D.flat then (ds.findIdx? fun d => eqD d y).map fun j => (.int j, false) else none
    | none => none
  | _, _, _ => none
end
def intsO : List D → Option (List Int)
  | [] => some []
  | .int i :: r => (intsO r).map (i :: ·)
  | _ :: _ => none
def tyOf : D → Option String
  | .non => some "NoneType"
  | .bl _ => some "bool"
  | .int _ => some "int"
  | .str _ => some "str"
  | .tup _ => some "tuple"
  | .lst _ => some "list"
  | .dct _ => some "dict"
  | .box _ => none
def isD (t : Ty) (x : D) : Bool := match t, x with
  | .int, .int _ => true
  | .int, .bl _ => true
  | .bool, .bl _ => true
  | .str, .str _ => true
  | .list, .lst _ => true
  | .tuple, .tup _ => true
  | _, _ => false
end Vi

namespace Vi
open PySem L2

/-! ### the evaluator -/
structure CF where
  call : Nat → List D → Os → R Os (D × Bool)
  init : Nat → List D → Os → R Os (D × Bool)   -- a call from within the making of an instance: one level less
  fuel : Nat
  fok : Nat → Str → Bool    -- the fields of each class
  sub : Nat → Nat → Bool    -- which error is of which class
  lv : Nat                  -- how deep calls may go from here
noncomputable section
open Classical

/-- bounds, kept shut (the kernel is not to reckon with them) -/
def Rg1 (b : Int) : Prop := -(2 ^ 62) ≤ b ∧ b < 2 ^ 62
def Rg2 (a b : Int) : Prop := -(2 ^ 62) ≤ a ∧ a < 2 ^ 62 ∧ -(2 ^ 62) ≤ b ∧ b < 2 ^ 62
def Rg3 (a b c : Int) : Prop := -(2 ^ 61) ≤ a ∧ a < 2 ^ 61 ∧ -(2 ^ 61) ≤ b ∧ b < 2 ^ 61 ∧ 0 < c ∧ c < 1000000
def srcOf (os : Os) (k : ItK) (ds : List D) : Option (List D) := match k, ds with
  | .val, [.str s] => some (signs s)
  | .val, [.tup ds] => some ds
  | .val, [x] => rdL os x
  | .range, [.int b] => if Rg1 b then some ((List.range b.toNat).map fun i : Nat => D.int i) else none
  | .range, [.int a, .int b] => if Rg2 a b then some ((List.range (b - a).toNat).map fun i : Nat => D.int (a + i)) else none
  | .range, [.int a, .int b, .int c] => if Rg3 a b c then some ((List.range ((b - a + c - 1) / c).toNat).map fun i : Nat => D.int (a + i * c)) else none
  | .enum, [x] => (rdL os x).map fun ds => ds.mapIdx fun i d => D.tup [.int i, d]
  | .zip, [x, y] => match rdL os x, rdL os y with
    | some ds, some es => some ((ds.zip es).map fun p => D.tup [p.1, p.2])
    | _, _ => none
  | .rev, [x] => (rdL os x).map List.reverse
  | _, _ => none
/-- the boxes that a loop walks -/
def boxesOf (os : Os) (ds : List D) : List (Nat × Bx) := ds.filterMap fun d => match d with
  | .box i => (os[i]?).map fun x => (i, x)
  | _ => none
def still (os : Os) (l : List (Nat × Bx)) : Prop := ∀ p ∈ l, os[p.1]? = some p.2

mutual
def setT : Tg → D → List Ent → Option (List Ent)
  | .nm i, d, env => some (env.set i (.val d false))
  | .tp ts, d, env => match d with
    | .tup ds => setTs ts ds env
    | _ => none
  | .tl _, _, _ => none
def setTs : List Tg → List D → List Ent → Option (List Ent)
  | [], [], env => some env
  | t :: ts, d :: ds, env => (setT t d env).bind (setTs ts ds)
  | _, _, _ => none
end

/-- a target of a walk; .tl takes a list in a box to parts -/
def setO (os : Os) (t : Tg) (d : D) (env : List Ent) : Option (List Ent) := match t with
  | .tl ts => (match d with
    | .box i => (match os[i]? with
      | some (.lst ds) => setTs ts ds env
      | _ => none)
    | _ => none)
  | t => setT t d env
theorem setO_of {os : Os} {t : Tg} {d : D} {env e : List Ent} (h : setT t d env = some e) : setO os t d env = some e := by
  cases t with
  | tl ts => simp [setT] at h
  | nm i => exact h
  | tp ts => exact h
def ofB (z : Z) (b : Option Bool) : R Z (D × Bool) := match b with
  | some b => .ok (.bl b, false) z
  | none => .stuck
def ofD (z : Z) (b : Option D) : R Z (D × Bool) := match b with
  | some d => .ok (d, false) z
  | none => .stuck
def ofT (z : Z) (b : Option (D × Bool)) : R Z (D × Bool) := match b with
  | some d => .ok d z
  | none => .stuck
def dedupD : List D → List D
  | [] => []
  | x :: l => if (dedupD l).any (eqD x) then dedupD l else x :: dedupD l
def fnD (f : Fn) (os : Os) (ds : List D) : Option (D × Bool) := match f, ds with
  | .len, [.str s] => if s.length ≤ sizeLine then some (.int s.length, false) else none
  | .len, [.tup ds] => some (.int ds.length, false)
  | .len, [.dct kvs] => if kvs.all fun p => keyOk p.1 then some (.int kvs.length, false) else none
  | .len, [.box i] => match os[i]? with
    | some (.lst ds) => some (.int ds.length, false)
    | some (.dct kvs) => if kvs.all fun p => keyOk p.1 then some (.int kvs.length, false) else none
    | some (.lkd kvs) => if kvs.all fun p => keyOk p.1 then some (.int kvs.length, false) else none
    | _ => none
  | .len, [.lst ds] => some (.int ds.length, false)
  | .abs, [.int i] => some (.int (if i < 0 then -i else i), false)
  | .int, [.int i] => some (.int i, false)
  | .int, [.bl b] => some (.int (if b then 1 else 0), false)
  | .int, [.str a] => match PySem.intText? a with
    | some n => if a.length ≤ 640 then some (.int n, false) else none
    | none => none
  | .str, [.int i] => if i.natAbs.log2 < 1920 then some (.str (toString i), false) else none
  | .str, [.str a] => some (.str a, false)
  | .list, [.tup ds] => some (.lst ds, true)
  | .list, [x] => match keysO os x with
    | some ks => some (.lst ks, true)
    | none => (rdL os x).map fun ds => (.lst ds, true)
  | .tuple, [.tup ds] => some (.tup ds, false)
  | .tuple, [x] => (rdL os x).map fun ds => (.tup ds, false)
  | .sorted, [x] => match keysO os x with
    | some ks => if SortOk ks then some (.lst (sortD ks), true) else none
    | none => match rdL os x with
      | some ds => if SortOk ds then some (.lst (sortD ds), true) else none
      | none => none
  | .sset, [x] => match rdL os x with
    | some ds => if SortOk ds ∧ (ds.all keyOk) = true then some (.lst (sortD (dedupD ds)), true) else none
    | none => none
  | .min, [.int i, .int j] => some (.int (if j < i then j else i), false)
  | .max, [.int i, .int j] => some (.int (if j > i then j else i), false)
  | .min, [x] => match (rdL os x).bind intsO with
    | some (i :: r) => some (.int (r.foldl (fun a b => if b < a then b else a) i), false)
    | _ => none
  | .max, [x] => match (rdL os x).bind intsO with
    | some (i :: r) => some (.int (r.foldl (fun a b => if b > a then b else a) i), false)
    | _ => none
  | .sum, [x] => match (rdL os x).bind intsO with
    | some is => some (.int is.sum, false)
    | _ => none
  | _, _ => none

def Ent.asVal : Ent → Option D
  | .val d _ => some d
  | _ => none

mutual
def Tg.slots : Tg → List Nat
  | .nm i => [i]
  | .tp ts => slotsL ts
  | .tl ts => slotsL ts
def slotsL : List Tg → List Nat
  | [] => []
  | t :: ts => Tg.slots t ++ slotsL ts
end
def wipeE (env : List Ent) : List Nat → List Ent
  | [] => env
  | v :: vs => (wipeE env vs).set v .no
/-- behind a comprehension its own slots have what they had, if it is no list of their own -/
def backE (old env : List Ent) : List Nat → List Ent
  | [] => env
  | v :: vs => (backE old env vs).set v (match old[v]? with
    | some e => if e.owns = true then .no else e
    | none => .no)
/-- a comprehension's items -/
def compL (tg : Tg) (bod : Z → R Z (Option D)) (chk : List (Nat × Bx)) : List D → List D → Z → R Z (List D)
  | [], acc, z => if still z.os chk then .ok acc z else .stuck
  | x :: xs, acc, z =>
    if still z.os chk then
      match setT tg x z.env with
      | some env' => match bod ⟨env', z.os⟩ with
        | .ok (some y) z' => if acc.length < sizeLine then compL tg bod chk xs (acc ++ [y]) ⟨wipeE z'.env tg.slots, z'.os⟩ else .stuck
        | .ok none z' => compL tg bod chk xs acc ⟨wipeE z'.env tg.slots, z'.os⟩
        | _ => .stuck
      | none => .stuck
    else .stuck
def compZ (tg : Tg) (bod : Z → R Z (Option D)) (chk : List (Nat × Bx)) (xs : List D) (z : Z) : R Z (D × Bool) :=
  match compL tg bod chk xs [] ⟨wipeE z.env tg.slots, z.os⟩ with
  | .ok ys z' => .ok (.lst ys, true) ⟨backE z.env z'.env tg.slots, z'.os⟩
  | _ => .stuck
def eltIf (c elt : Z → R Z (D × Bool)) (z : Z) : R Z (Option D) := (c z).bind fun x z => match x.1 with
  | .bl true => (elt z).bind fun x z => .ok (some x.1) z
  | .bl false => .ok none z
  | _ => .stuck
/-- caught exceptions are forgotten -/
def unEx (env : List Ent) : List Ent := env.map fun e => match e with
  | .ex _ _ => .no
  | e => e
def yesZ (z : Z) : R Z (D × Bool) := .ok (.bl true, false) z
/-- a whole comprehension, its source evaluated -/
def compK (tg : Tg) (k : ItK) (c elt : Z → R Z (D × Bool)) (ds : List D) (z : Z) : R Z (D × Bool) := match srcOf z.os k ds with
  | some xs => compZ tg (eltIf c elt) (boxesOf z.os ds) xs z
  | none => .stuck

def negZ (z : Z) (x : D) : R Z (D × Bool) := match x with
  | .int i => .ok (.int (-i), false) z
  | _ => .stuck
def boxZ (z : Z) (a : D × Bool) : R Z (D × Bool) := match a with
  | (.lst ds, true) => .ok (.box z.os.length, false) { z with os := z.os ++ [.lst ds] }
  | (.dct ds, true) => .ok (.box z.os.length, false) { z with os := z.os ++ [.dct ds] }
  | _ => .stuck
def withI {σ α : Type} (o : Option (Option Int)) (f : Option Int → R σ α) : R σ α := match o with
  | some l => f l
  | none => .stuck
def fldZ (cf : CF) (z : Z) (f : Str) (x : D) : R Z (D × Bool) := match x with
  | .box i => match z.os[i]? with
    | some (.ins c fs) => if cf.fok c f = true then ofD z (fs.lookup f) else .stuck
    | _ => .stuck
  | _ => .stuck
/-- a call's outcome -/
def outZ (z : Z) (r : R Os (D × Bool)) : R Z (D × Bool) := match r with
  | .ok a os => .ok a { z with os := os }
  | .exc c x os => .exc c x { z with os := os }
  | .stuck => .stuck
/-- a new instance -/
def mkZ (cf : CF) (c f : Nat) (ds : List D) (z : Z) : R Z (D × Bool) := match cf.init f (.box z.os.length :: ds) (z.os ++ [.ins c []]) with
  | .ok a os => match a.1 with
    | .non => .ok (.box z.os.length, false) { z with os := os }
    | _ => .stuck
  | .exc c x os => .exc c x { z with os := os }
  | .stuck => .stuck
/-- whose method -/
def recZ (c : Nat) (m : Str) (z : Z) (x : D) : Bool := match x with
  | .box i => match z.os[i]? with
    | some (.ins c' fs) => decide (c' = c) && (fs.lookup m).isNone
    | _ => false
  | _ => false
/-- d.get(k, e) -/
def getZ2 (z : Z) (x k d : D) : R Z (D × Bool) := match dctO z.os x with
  | some kvs => if keyOk k && kvs.all (fun p => keyOk p.1) then .ok ((lookD kvs k).getD d, false) z else .stuck
  | none => .stuck
/-- d.pop(k, e), d a box -/
def popZ (z : Z) (x k d : D) : R Z (D × Bool) := match x with
  | .box i => match z.os[i]? with
    | some (.dct kvs) => if keyOk k && kvs.all (fun p => keyOk p.1) then .ok ((lookD kvs k).getD d, false) { z with os := z.os.set i (.dct (delD k kvs)) } else .stuck
    | _ => .stuck
  | _ => .stuck
def dspZ (z : Z) (ds : List D) : R Z (D × Bool) := match pairUp ds with
  | some kvs => if kvs.all (fun p => keyOk p.1) && decide (kvs.length ≤ 15) then .ok (.dct (kvs.foldl (fun acc p => putD p.1 p.2 acc) []), true) z else .stuck
  | none => .stuck
/-- what kind of thing it is -/
def kindD (os : Os) (x : D) : D := match x with
  | .box i => match os[i]? with
    | some (.lst _) => .lst []
    | some (.dct _) => .dct []
    | _ => x
  | x => x
def isiZ (ts : List Ty) (z : Z) (x : D) : R Z (D × Bool) := match tyOf (kindD z.os x) with
  | some _ => .ok (.bl (ts.any fun t => isD t (kindD z.os x)), false) z
  | none => .stuck
def callZ (cf : CF) (f : Nat) (ds : List D) (z : Z) : R Z (D × Bool) := outZ z (cf.call f ds z.os)

mutual
def evalE (cf : CF) : E → Z → R Z (D × Bool)
  | .c d, z => .ok (d, false) z
  | .v i, z => match z.env[i]? with
    | some (.val d fr) => if (fr && d.cell) = true then .ok (d, false) { z with env := z.env.set i (.val d false) } else .ok (d, false) z
    | _ => .stuck
  | .b i, z => match z.env[i]? with
    | some (.val d _) => .ok (d, false) z
    | some (.bor d) => .ok (d, false) z
    | _ => .stuck
  | .w i, z => match z.env[i]? with
    | some (.val d fr) => if (fr && d.cell) = true then .stuck else .ok (d, false) z
    | some (.bor d) => .ok (d, false) z
    | _ => .stuck
  | .tup es, z => (evalEs cf es z).bind fun ds z => .ok (.tup ds, false) z
  | .lst es, z => (evalEs cf es z).bind fun ds z => .ok (.lst ds, true) z
  | .dct es, z => (evalEs cf es z).bind fun ds z => dspZ z ds
  | .box e, z => (evalE cf e z).bind fun a z => boxZ z a
  | .bin o a b, z => (evalE cf a z).bind fun x z => (evalE cf b z).bind fun y z => ofT z (binD o z.os x.1 y.1)
  | .neg a, z => (evalE cf a z).bind fun x z => negZ z x.1
  | .not a, z => (evalE cf a z).bind fun x z => match x.1 with
    | .bl b => .ok (.bl (!b), false) z
    | _ => .stuck
  | .cmp o a b, z => (evalE cf a z).bind fun x z => (evalE cf b z).bind fun y z => ofB z (cmpD o z.os x.1 y.1)
  | .chain o o' a b c, z => (evalE cf a z).bind fun x z => (evalE cf b z).bind fun y z => match cmpD o z.os x.1 y.1 with
    | some true => (evalE cf c z).bind fun u z => ofB z (cmpD o' z.os y.1 u.1)
    | some false => .ok (.bl false, false) z
    | none => .stuck
  | .and a b, z => (evalE cf a z).bind fun x z => match x.1 with
    | .bl true => evalE cf b z
    | .bl false => .ok (.bl false, false) z
    | _ => .stuck
  | .or a b, z => (evalE cf a z).bind fun x z => match x.1 with
    | .bl true => .ok (.bl true, false) z
    | .bl false => evalE cf b z
    | _ => .stuck
  | .ite c a b, z => (evalE cf c z).bind fun x z => match x.1 with
    | .bl true => evalE cf a z
    | .bl false => evalE cf b z
    | _ => .stuck
  | .ix a i, z => (evalE cf a z).bind fun x z => (evalE cf i z).bind fun y z => ofD z (ixD z.os x.1 y.1)
  | .sl a lo hi, z => (evalE cf a z).bind fun x z => (evalEs cf lo z).bind fun l z => withI (intO l) fun l => (evalEs cf hi z).bind fun h z => withI (intO h) fun h => ofT z (slD z.os x.1 l h)
  | .rev a, z => (evalE cf a z).bind fun x z => ofT z ((rdL z.os x.1).map fun ds => (.lst ds.reverse, true))
  | .fld a f, z => (evalE cf a z).bind fun x z => fldZ cf z f x.1
  | .call f es, z => (evalEs cf es z).bind fun ds z => callZ cf f ds z
  | .mk c f es, z => (evalEs cf es z).bind fun ds z => mkZ cf c f ds z
  | .om c m f o es, z => (evalE cf o z).bind fun x z => if recZ c m z x.1 = true then (evalEs cf es z).bind fun ds z => callZ cf f (x.1 :: ds) z else .stuck
  | .get o k d, z => (evalE cf o z).bind fun x z => if (dctO z.os x.1).isSome = true then (evalE cf k z).bind fun y z => (evalE cf d z).bind fun u z => getZ2 z x.1 y.1 u.1 else .stuck
  | .popD o k d, z => (evalE cf o z).bind fun x z => if (dctO z.os x.1).isSome = true then (evalE cf k z).bind fun y z => (evalE cf d z).bind fun u z => popZ z x.1 y.1 u.1 else .stuck
  | .isx i cs, z => match z.env[i]? with
    | some (.ex c x) => if cf.sub c c = true then .ok (.bl (cs.any fun d => cf.sub c d), false) z else .stuck
    | _ => .stuck
  | .xpl i, z => match z.env[i]? with
    | some (.ex c x) => if x.flat = true ∧ cf.sub c c = true then .ok (x, false) z else .stuck
    | _ => .stuck
  | .meth m o es, z => (evalE cf o z).bind fun x z => if mtOk m z.os x.1 = true then (evalEs cf es z).bind fun ys z => ofT z (methD m z.os x.1 ys) else .stuck
  | .fn f es, z => (evalEs cf es z).bind fun ds z => ofT z (fnD f z.os ds)
  | .isi e ts, z => (evalE cf e z).bind fun x z => isiZ ts z x.1
  | .comp elt tg k src [], z => (evalEs cf src z).bind fun ds z => compK tg k yesZ (evalE cf elt) ds z
  | .comp elt tg k src (c :: _), z => (evalEs cf src z).bind fun ds z => compK tg k (evalE cf c) (evalE cf elt) ds z
def evalEs (cf : CF) : List E → Z → R Z (List D)
  | [], z => .ok [] z
  | e :: es, z => (evalE cf e z).bind fun x z => (evalEs cf es z).bind fun xs z => .ok (x.1 :: xs) z
end
end
end Vi

namespace Vi
open PySem L2
noncomputable section
open Classical

def forL (tg : Tg) (bod : Z → R Z Fl) (chk : List (Nat × Bx)) : List D → Z → R Z Fl
  | [], z => if still z.os chk then .ok .next z else .stuck
  | x :: xs, z =>
    if still z.os chk then
      match setO z.os tg x z.env with
      | some env' => (bod ⟨env', z.os⟩).bind fun f z' => match f with
        | .ret d fr => .ok (.ret d fr) z'
        | _ => forL tg bod chk xs z'
      | none => .stuck
    else .stuck
def forK (t : Tg) (k : ItK) (bod : Z → R Z Fl) (ds : List D) (z : Z) : R Z Fl := match srcOf z.os k ds with
  | some xs => forL t bod (boxesOf z.os ds) xs z
  | none => .stuck
/-- a walk over the keys of a dict in a box; the box is locked meanwhile -/
def unlk (i : Nat) (kvs : List (D × D)) (r : R Z Fl) : R Z Fl := match r with
  | .ok f z => if z.os[i]? = some (.lkd kvs) then .ok f { z with os := z.os.set i (.dct kvs) } else .stuck
  | .exc c x z => .stuck
  | .stuck => .stuck
def forD (t : Tg) (e : Z → R Z (D × Bool)) (bod : Z → R Z Fl) (z : Z) : R Z Fl := match e z with
  | .ok (.box i, _) _ => match z.os[i]? with
    | some (.dct kvs) => if (kvs.all fun p => keyOk p.1) = true then (match e { z with os := z.os.set i (.lkd kvs) } with
      | .ok (.box j, _) z1 => if j = i ∧ z1.os[i]? = some (.lkd kvs) then unlk i kvs (forL t bod [(i, .lkd kvs)] (kvs.map (·.1)) z1) else .stuck
      | _ => .stuck) else .stuck
    | _ => .stuck
  | _ => .stuck
def whlL (c : Z → R Z (D × Bool)) (bod : Z → R Z Fl) : Nat → Z → R Z Fl
  | 0, _ => .stuck
  | n + 1, z => (c z).bind fun x z => match x.1 with
    | .bl true => (bod z).bind fun f z' => match f with
      | .ret d fr => .ok (.ret d fr) z'
      | _ => whlL c bod n z'
    | .bl false => .ok .next z
    | _ => .stuck
/-- where a list may have one more put in -/
def InsOk (n : Nat) (i : Int) : Prop := n < sizeLine ∧ 0 ≤ i ∧ i < 2 ^ 62
/-- a list is changed by a method: append, extend .. (what it gives is not asked) -/
def mutL (m : Str) (ds : List D) (args : List D) (os : Os) : Option (List D) :=
  if m = "append" then (match args with
    | [y] => if ds.length < sizeLine then some (ds ++ [y]) else none
    | _ => none)
  else if m = "extend" then (match args with
    | [y] => match rdL os y with
      | some es => if ds.length + es.length ≤ sizeLine then some (ds ++ es) else none
      | none => none
    | _ => none)
  else if m = "insert" then (match args with
    | [.int i, y] => if InsOk ds.length i then some (ds.take i.toNat ++ [y] ++ ds.drop i.toNat) else none
    | _ => none)
  else if m = "clear" then (match args with
    | [] => some []
    | _ => none)
  else if m = "reverse" then (match args with
    | [] => some ds.reverse
    | _ => none)
  else none
/-- o[i] = y, for a list or a dict -/
def setC (ds : List D) (i y : D) : Option (List D) := match i with
  | .int k => (ixN ds.length k).map fun j => ds.set j y
  | _ => none
/-- a part of a list put anew -/
def splL {α : Type} (ds : List α) (lo hi : Option Int) (es : List α) : List α := ds.take (HT.sIx ds.length 0 lo) ++ es ++ ds.drop (max (HT.sIx ds.length 0 lo) (HT.sIx ds.length ds.length hi))
def splO (ds : List D) (lo hi : Option Int) (y : D) : Option (List D) := match y with
  | .lst es => if ds.length + es.length ≤ 1000000 then some (splL ds lo hi es) else none
  | _ => none
/-- the list that a local has: its own, or in a box -/
def lisAt (z : Z) (x : Nat) : Option (List D) := match z.env[x]? with
  | some (.val (.lst ds) true) => some ds
  | some (.val (.box k) _) => match z.os[k]? with
    | some (.lst ds) => some ds
    | _ => none
  | _ => none
/-- the dict that a local has: its own, or in a box -/
def dicAt (z : Z) (x : Nat) : Option (List (D × D)) := match z.env[x]? with
  | some (.val (.dct ds) true) => some ds
  | some (.val (.box k) _) => match z.os[k]? with
    | some (.dct ds) => some ds
    | _ => none
  | _ => none
def putDc (z : Z) (x : Nat) (ds : List (D × D)) : Z := match z.env[x]? with
  | some (.val (.box k) _) => { z with os := z.os.set k (.dct ds) }
  | _ => { z with env := z.env.set x (.val (.dct ds) true) }
def putKO (k y : D) (kvs : List (D × D)) : Option (List (D × D)) := if (keyOk k && kvs.all fun p => keyOk p.1) = true ∧ kvs.length < sizeLine then some (putD k y kvs) else none
def putFs (f : Str) (d : D) : List (Str × D) → List (Str × D)
  | [] => [(f, d)]
  | (g, x) :: r => if g = f then (g, d) :: r else (g, x) :: putFs f d r
/-- o.f = d -/
def stF (cf : CF) (z : Z) (f : Str) (x d : D) : R Z Fl := match x with
  | .box i => match z.os[i]? with
    | some (.ins c fs) => if cf.fok c f = true ∧ fs.length < 1000 then .ok .next { z with os := z.os.set i (.ins c (putFs f d fs)) } else .stuck
    | _ => .stuck
  | _ => .stuck
/-- o[i] = d, o a box -/
def stI (z : Z) (x i d : D) : R Z Fl := match x with
  | .box k => match z.os[k]? with
    | some (.lst ds) => match setC ds i d with
      | some ds' => .ok .next { z with os := z.os.set k (.lst ds') }
      | none => .stuck
    | some (.dct kvs) => match putKO i d kvs with
      | some kvs' => .ok .next { z with os := z.os.set k (.dct kvs') }
      | none => .stuck
    | _ => .stuck
  | _ => .stuck
/-- a list in a box -/
def lisB (z : Z) (x : D) : Option (List D) := match x with
  | .box k => match z.os[k]? with
    | some (.lst ds) => some ds
    | _ => none
  | _ => none
def putB (z : Z) (x : D) (ds : List D) : Z := match x with
  | .box k => { z with os := z.os.set k (.lst ds) }
  | _ => z
/-- x.setdefault(k, []): the list's box -/
def sdfZ (z : Z) (x : Nat) (k : D) : Option (Nat × Z) := match dicAt z x with
  | some kvs => if (keyOk k && kvs.all fun p => keyOk p.1) = true ∧ kvs.length < sizeLine then (match lookD kvs k with
    | some (.box j) => match z.os[j]? with
      | some (.lst _) => some (j, z)
      | _ => none
    | some _ => none
    | none => some (z.os.length, { putDc z x (kvs ++ [(k, .box z.os.length)]) with os := (putDc z x (kvs ++ [(k, .box z.os.length)])).os ++ [.lst []] }))
    else none
  | none => none
def putL (z : Z) (x : Nat) (ds : List D) : Z := match z.env[x]? with
  | some (.val (.box k) _) => { z with os := z.os.set k (.lst ds) }
  | _ => { z with env := z.env.set x (.val (.lst ds) true) }

mutual
def execS (cf : CF) : S → Z → R Z Fl
  | .set (.nm i) e, z => (evalE cf e z).bind fun a z => .ok .next { z with env := z.env.set i (.val a.1 a.2) }
  | .set (.tp ts) e, z => (evalE cf e z).bind fun a z => match setT (.tp ts) a.1 z.env with
    | some env => .ok .next { z with env := env }
    | none => .stuck
  | .set (.tl _) _, _ => .stuck
  | .setIx o i e, z => (evalE cf e z).bind fun d z => (evalE cf o z).bind fun x z => (evalE cf i z).bind fun j z => stI z x.1 j.1 d.1
  | .setF o f e, z => (evalE cf e z).bind fun d z => (evalE cf o z).bind fun x z => stF cf z f x.1 d.1
  | .setD x k e, z => (evalE cf e z).bind fun y z => match dicAt z x with
    | some _ => (evalE cf k z).bind fun j z => match dicAt z x with
      | some ds => match putKO j.1 y.1 ds with
        | some ds' => .ok .next (putDc z x ds')
        | none => .stuck
      | none => .stuck
    | none => .stuck
  | .mutE m o es, z => (evalE cf o z).bind fun x z => match lisB z x.1 with
    | some _ => (evalEs cf es z).bind fun ys z => match lisB z x.1 with
      | some ds => match mutL m ds ys z.os with
        | some ds' => .ok .next (putB z x.1 ds')
        | none => .stuck
      | none => .stuck
    | none => .stuck
  | .sdApp x k e, z => match dicAt z x with
    | some _ => (evalE cf k z).bind fun j z => match sdfZ z x j.1 with
      | some (b, z) => (evalE cf e z).bind fun y z => match lisB z (.box b) with
        | some ds => if ds.length < sizeLine then .ok .next (putB z (.box b) (ds ++ [y.1])) else .stuck
        | none => .stuck
      | none => .stuck
    | none => .stuck
  | .setV x i e, z => (evalE cf e z).bind fun y z => match lisAt z x with
    | some _ => (evalE cf i z).bind fun j z => match lisAt z x with
      | some ds => match setC ds j.1 y.1 with
        | some ds' => .ok .next (putL z x ds')
        | none => .stuck
      | none => .stuck
    | none => .stuck
  | .setSl x lo hi e, z => (evalE cf e z).bind fun y z => match lisAt z x with
    | some _ => (evalEs cf lo z).bind fun l z => withI (intO l) fun l => (evalEs cf hi z).bind fun h z => withI (intO h) fun h => match lisAt z x with
      | some ds => match splO ds l h y.1 with
        | some ds' => .ok .next (putL z x ds')
        | none => .stuck
      | none => .stuck
    | none => .stuck
  | .mut m x es, z => match lisAt z x with
    | some _ => (evalEs cf es z).bind fun ys z => match lisAt z x with
      | some ds => match mutL m ds ys z.os with
        | some ds' => .ok .next (putL z x ds')
        | none => .stuck
      | none => .stuck
    | none => .stuck
  | .expr e, z => (evalE cf e z).bind fun _ z => .ok .next z
  | .ifS c a b, z => (evalE cf c z).bind fun x z => match x.1 with
    | .bl true => execB cf a z
    | .bl false => execB cf b z
    | _ => .stuck
  | .whl c a, z => whlL (evalE cf c) (execB cf a) cf.fuel z
  | .for t k src a, z => match k, src with
    | .keys, [e] => forD t (evalE cf e) (execB cf a) z
    | k, src => (evalEs cf src z).bind fun ds z => forK t k (execB cf a) ds z
  | .ret e, z => match e with
    | .v i => match z.env[i]? with
      | some (.val d fr) => .ok (.ret d fr) z
      | _ => .stuck
    | e => (evalE cf e z).bind fun a z => .ok (.ret a.1 a.2) z
  | .retN, z => .ok (.ret .non false) z
  | .cont, z => .ok .cont z
  | .pass, z => .ok .next z
  | .raise c, z => .exc c (.tup []) z
  | .raiseP c e, z => (evalE cf e z).bind fun a z => if a.1.flat = true ∧ 2 ≤ cf.lv then .exc c a.1 z else .stuck
  | .tryE a c x h, z => match execB cf a z with
    | .exc c' d z' => if cf.sub c' c' = true then (if cf.sub c' c = true then (match execB cf h { z' with env := z'.env.set x (.ex c' d) } with
        | .ok f z => .ok f { z with env := (unEx z.env).set x .no }
        | _ => .stuck) else .exc c' d z') else .stuck
    | r => r
def execB (cf : CF) : List S → Z → R Z Fl
  | [], z => .ok .next z
  | s :: r, z => (execS cf s z).bind fun f z => match f with
    | .next => execB cf r z
    | f => .ok f z
end

/-! ### a program -/
structure Df where
  bs : List Bool   -- the parameters: which are only read
  m : Nat          -- how many slots
  body : List S
structure Tb where
  defs : List Df
  fuel : Nat
  fok : Nat → Str → Bool
  sub : Nat → Nat → Bool
def entOf (b : Bool) (d : D) : Ent := if (b && d.cell) = true then .bor d else .val d false
def entsOf : List Bool → List D → List Ent
  | b :: bs, d :: ds => entOf b d :: entsOf bs ds
  | _, _ => []
def envOf (bs : List Bool) (m : Nat) (ds : List D) : List Ent := entsOf bs ds ++ List.replicate (m - bs.length) .no
def outF (r : R Z Fl) : R Os (D × Bool) := match r with
  | .ok .next z => .ok (.non, false) z.os
  | .ok (.ret d fr) z => .ok (d, fr) z.os
  | .ok .cont _ => .stuck
  | .exc c x z => .exc c x z.os
  | .stuck => .stuck
def call (T : Tb) : Nat → Nat → List D → Os → R Os (D × Bool)
  | 0, _, _, _ => .stuck
  | 1, f, ds, os => match T.defs[f]? with
    | some d => if ds.length = d.bs.length then outF (execB ⟨call T 0, call T 0, T.fuel, T.fok, T.sub, 0⟩ d.body ⟨envOf d.bs d.m ds, os⟩) else .stuck
    | none => .stuck
  | k + 2, f, ds, os => match T.defs[f]? with
    | some d => if ds.length = d.bs.length then outF (execB ⟨call T (k + 1), call T k, T.fuel, T.fok, T.sub, k + 1⟩ d.body ⟨envOf d.bs d.m ds, os⟩) else .stuck
    | none => .stuck
def Tb.cf (T : Tb) (k : Nat) : CF := ⟨call T k, call T (k - 1), T.fuel, T.fok, T.sub, k⟩
end
end Vi

namespace Vi
open PySem L2

section
variable {w : Wd} {xr : Nat → Option Addr → V → Prop} {X : Cx} {W : WX} {b : Bs} {g g2 : Gh} {z z2 : Z} {σ : St} {H H2 : Hp} {Q : VK}

theorem PostE.step {r : R Z (D × Bool)} (S2 : Sim w xr b g2 z2 σ H2) (st : Stp g H g2 H2) (k : PostE w xr W b g σ H Q r) : PostE w xr W b g2 σ H2 Q r := by
  cases r with
  | ok a z' => exact fun g' v H' s' S' t => k g' v H' (st.trans s') S' (t.weak fun a h => st.fresh S2 a h)
  | exc c x z' => exact fun g' cls dd H' s' S' t => k g' cls dd H' (st.trans s') S' t
  | stuck => exact k.elim
theorem PostF.step {r : R Z D} (st : Stp g H g2 H2) (k : PostF w xr W b g σ H Q r) : PostF w xr W b g2 σ H2 Q r := by
  cases r with
  | ok a z' => exact fun g' v H' s' S' t => k g' v H' (st.trans s') S' t
  | exc c x z' => exact fun g' cls dd H' s' S' t => k g' cls dd H' (st.trans s') S' t
  | stuck => exact k.elim
theorem PostB.step {r : R Z D} (st : Stp g H g2 H2) (k : PostB w xr W b g σ H Q r) : PostB w xr W b g2 σ H2 Q r := by
  cases r with
  | ok a z' => exact fun g' v H' s' S' t => k g' v H' (st.trans s') S' t
  | exc c x z' => exact fun g' cls dd H' s' S' t => k g' cls dd H' (st.trans s') S' t
  | stuck => exact k.elim

/-- the outcome stands as it is -/
theorem PostE.now {d : D} {v : V} (S : Sim w xr b g z σ H) (h : Rp g.F g.al d v) (k : PostE w xr W b g σ H Q (.ok (d, false) z)) : Q v H :=
  k g v H (.refl _ _) S (Tmp.frozen h)
/-- a new list -/
theorem PostE.new {d : D} {p : Addr} {o : HO} (S : Sim w xr b g z σ H) (hp : H p = none) (hd : d.cell = true) (hc : Cel g.F g.al (upd H p o) p d) (k : PostE w xr W b g σ H Q (.ok (d, true) z)) : Q (.ref p) (upd H p o) := by
  refine k g (.ref p) _ (Stp.alloc hp) (S.alloc hp) ?_
  unfold Tmp
  rw [if_pos (by simp [hd])]
  refine ⟨p, rfl, ⟨S.freshF hp, S.freshB hp, S.freshH hp, S.freshR hp, hc⟩, fun i e he ho q => ?_, hp⟩
  cases e with
  | no => cases ho
  | ex c x => cases ho
  | bor d => cases ho
  | val d' fr =>
    obtain ⟨a, h1, h2, h3⟩ := S.ownAt he ho
    rw [h2] at q; cases q
    obtain ⟨u, hu⟩ := h3.cl.there
    rw [hp] at hu; cases hu
/-- a new tuple -/
theorem PostE.tup {ds : List D} {vs : List V} {p : Addr} (S : Sim w xr b g z σ H) (hp : H p = none) (hc : Rps g.F g.al ds vs) (k : PostE w xr W b g σ H Q (.ok (.tup ds, false) z)) : Q (.ref p) (upd H p (.tup vs)) := by
  have st : Stp g H ⟨upd g.F p (.tup vs), g.al⟩ (upd H p (.tup vs)) :=
    ⟨fun a o e => by show upd g.F p _ a = _; rw [upd_ne (fun q => by rw [q, S.freshF hp] at e; cases e)]; exact e, .refl _, fun a h => .inl h, (Stp.alloc (g := g) hp).keep⟩
  have S1 := S.alloc (o := .tup vs) hp
  refine k ⟨upd g.F p (.tup vs), g.al⟩ (.ref p) _ st ⟨fun a o e => ?_, fun a ha => ?_, S1.kept, S.pF.trans st.F, S.pre, S.alnew, fun a ha => ?_, S.nd, Paired.imp (fun x a q => q.mono st.F (.refl _) fun _ q => q) S1.box, S.len, S.ln, fun i e he => ?_, S.dis, fun a ha => ?_⟩ ?_
  · by_cases h : a = p
    · subst h; dsimp only at e; rw [upd_same] at e ⊢; exact e
    · dsimp only at e; rw [upd_ne h] at e ⊢; exact S.sub a o e
  · by_cases h : a = p
    · subst h; exact .inr (S.freshH hp)
    · dsimp only at ha; rw [upd_ne h] at ha; exact S.new a ha
  · show upd g.F p _ a = none
    rw [upd_ne (fun q : a = p => S.freshB hp (by rw [← q]; exact ha))]
    exact S.alF a ha
  · refine (S.ent i e he).mono st fun a v e1 ho ev => ?_
    show upd g.F p _ a = none
    cases e with
    | no => cases ho
    | ex c x => cases ho
    | bor d => cases ho
    | val d' fr =>
      obtain ⟨a', h1, h2, h3⟩ := S.ownAt he ho
      rw [h1] at e1; cases e1; cases ev
      obtain ⟨u, hu⟩ := h3.cl.there
      rw [upd_ne (ne_of_none hu hp)]
      exact h3.nF
  · obtain ⟨h1, h2, o, h3⟩ := S.rs a ha
    refine ⟨?_, h2, o, ?_⟩
    · show upd g.F p _ a = none
      rw [upd_ne (ne_of_none h3 hp)]; exact h1
    · rw [upd_ne (ne_of_none h3 hp)]; exact h3
  · refine Tmp.frozen ?_
    simp only [Rp]
    exact ⟨p, vs, rfl, upd_same, Rps.mono st.F (.refl _) _ _ hc⟩

/-! ### leaves -/
theorem s_c {e : Expr} {d : D} {v : V} (p : PE X e (tC v)) (hr : ∀ F al, Rp F al d v) : SndE w xr X W e fun z => .ok (d, false) z :=
  ⟨_, p, fun b g z σ H Q S k => k.now S (hr _ _)⟩
theorem rp_int {i : Int} : ∀ F al, Rp F al (.int i) (.int i) := fun _ _ => by simp [Rp]
theorem rp_bl {i : Bool} : ∀ F al, Rp F al (.bl i) (.bl i) := fun _ _ => by simp [Rp]
theorem rp_non : ∀ F al, Rp F al .non .non := fun _ _ => by simp [Rp]
theorem rp_str {s : Str} (h : PyData.strOk s = true) : ∀ F al, Rp F al (.str s) (.str s) := fun _ _ => by simp [Rp, h]

theorem s_v {cf : CF} {i : Nat} {x : Str} {pos : Pos} (hN : X.N[i]? = some x) (hv : Vis X.env.scope x) (hd : (x == ("__debug__" : Str)) = false) (hcd : (x == ("__classdict__" : Str)) = false) :
    SndE w xr X W (.Name x pos) (evalE cf (.v i)) := by
  refine ⟨_, pe_var hN hv hd hcd, fun b g z σ H Q S k => ?_⟩
  simp only [evalE] at k
  split at k
  · rename_i d fr he
    split at k
    · rename_i hc
      obtain ⟨a, h1, h2, ow⟩ := S.ownAt he hc
      refine ⟨_, h1, ?_⟩
      have hi : i < z.env.length := (List.getElem?_eq_some_iff.mp he).1
      obtain ⟨S', r⟩ := S.freeze (env' := z.env.set i (.val d false)) ow (by simp) fun j e hj => by
        by_cases hij : j = i
        · subst hij
          rw [List.getElem?_set_self hi] at hj
          cases hj
          exact .inr ⟨d, rfl, h2, rfl⟩
        · rw [List.getElem?_set_ne (Ne.symm hij)] at hj
          exact .inl ⟨hj, fun ho => h2 ▸ S.dis j i e _ hij hj he ho hc⟩
      exact k _ _ _ (freeze_stp ow.nF) S' (Tmp.frozen r)
    · rename_i hc
      obtain ⟨v, h1, h2⟩ := S.ent i _ he
      unfold ValRel at h2
      rw [if_neg hc] at h2
      exact ⟨v, h1, k.now S h2⟩
  · exact k.elim
theorem s_b {cf : CF} {i : Nat} {x : Str} {pos : Pos} (hN : X.N[i]? = some x) (hv : Vis X.env.scope x) (hd : (x == ("__debug__" : Str)) = false) (hcd : (x == ("__classdict__" : Str)) = false) :
    SndB w xr X W (.Name x pos) (fun z => fst1 (evalE cf (.b i) z)) := by
  refine ⟨_, pe_var hN hv hd hcd, fun b g z σ H Q S k => ?_⟩
  simp only [evalE] at k
  split at k
  · rename_i d fr he
    obtain ⟨v, h1, h2⟩ := S.ent i _ he
    refine ⟨v, h1, k g v H (.refl _ _) S ?_⟩
    unfold ValRel at h2
    split at h2
    · obtain ⟨a, rfl, ow⟩ := h2
      exact Rb.own ow
    · exact Rb.of S h2
  · rename_i d he
    obtain ⟨v, h1, h2⟩ := S.ent i _ he
    exact ⟨v, h1, k g v H (.refl _ _) S (h2.rb S)⟩
  · exact k.elim
theorem s_w {cf : CF} {i : Nat} {x : Str} {pos : Pos} (hN : X.N[i]? = some x) (hv : Vis X.env.scope x) (hd : (x == ("__debug__" : Str)) = false) (hcd : (x == ("__classdict__" : Str)) = false) :
    SndN w xr X W (.Name x pos) (fun z => fst1 (evalE cf (.w i) z)) := by
  refine ⟨_, pe_var hN hv hd hcd, fun b g z σ H Q S k => ?_⟩
  simp only [evalE] at k
  split at k
  · rename_i d fr he
    obtain ⟨v, h1, h2⟩ := S.ent i _ he
    split at k
    · exact k.elim
    · rename_i hc
      unfold ValRel at h2
      rw [if_neg hc] at h2
      exact ⟨v, h1, k g v H (.refl _ _) S (Rst.of h2)⟩
  · rename_i d he
    obtain ⟨v, h1, h2⟩ := S.ent i _ he
    exact ⟨v, h1, k g v H (.refl _ _) S fun g2 z2 σ2 H2 l S2 => h2.rb S2⟩
  · exact k.elim
/-! ### two operands that are read -/
def SndP (w : Wd) (xr : Nat → Option Addr → V → Prop) (W : WX) (P : TE → Prop) (f : Z → R Z (D × Bool)) : Prop :=
  ∃ t, P t ∧ ∀ b g z σ H Q, Sim w xr b g z σ H → PostE w xr W b g σ H Q (f z) → t σ H Q
theorem s_two {P : TE → Prop} {ea eb : Expr} {fa fb : Z → R Z (D × Bool)} {r : R2} {G : Z → D → D → R Z (D × Bool)} (ha : SndB w xr X W ea fun z => fst1 (fa z)) (hb : SndB w xr X W eb fun z => fst1 (fb z))
    (hpe : ∀ ta tb, PE X ea ta → PE X eb tb → P (tOp r ta tb))
    (hr : ∀ b g z σ H Q x y vx vy, Sim w xr b g z σ H → Rb w g H x vx → Rb w g H y vy → PostE w xr W b g σ H Q (G z x y) → r vx vy H Q) :
    SndP w xr W P fun z => (fa z).bind fun x z => (fb z).bind fun y z => G z x.1 y.1 := by
  obtain ⟨ta, pa, qa⟩ := ha
  obtain ⟨tb, pb, qb⟩ := hb
  refine ⟨_, hpe ta tb pa pb, fun b g z σ H Q S k => qa b g z σ H _ S ?_⟩
  simp only [fst1]
  dsimp only at k
  cases ra : fa z with
  | stuck => rw [ra] at k; exact k
  | exc c x z' => rw [ra] at k; exact k
  | ok x z1 =>
    rw [ra] at k
    intro g1 vx H1 st1 S1 rx
    refine qb b g1 z1 σ H1 _ S1 ?_
    have k1 := PostE.step S1 st1 k
    simp only [fst1]
    simp only [R.bind_ok] at k1
    cases rb : fb z1 with
    | stuck => rw [rb] at k1; exact k1
    | exc c x z' => rw [rb] at k1; exact k1
    | ok y z2 =>
      rw [rb] at k1
      intro g2 vy H2 st2 S2 ry
      exact hr b g2 z2 σ H2 Q x.1 y.1 vx vy S2 (rx.mono st2) ry (PostE.step S2 st2 k1)
/-- one operand that is read -/
theorem s_one {P : TE → Prop} {ea : Expr} {fa : Z → R Z (D × Bool)} {r : V → Hp → VK → Prop} {G : Z → D → R Z (D × Bool)} (ha : SndB w xr X W ea fun z => fst1 (fa z))
    (hpe : ∀ ta, PE X ea ta → P (tUn r ta))
    (hr : ∀ b g z σ H Q x vx, Sim w xr b g z σ H → Rb w g H x vx → PostE w xr W b g σ H Q (G z x) → r vx H Q) :
    SndP w xr W P fun z => (fa z).bind fun x z => G z x.1 := by
  obtain ⟨ta, pa, qa⟩ := ha
  refine ⟨_, hpe ta pa, fun b g z σ H Q S k => qa b g z σ H _ S ?_⟩
  simp only [fst1]
  dsimp only at k
  cases ra : fa z with
  | stuck => rw [ra] at k; exact k
  | exc c x z' => rw [ra] at k; exact k
  | ok x z1 =>
    rw [ra] at k
    intro g1 vx H1 st1 S1 rx
    exact hr b g1 z1 σ H1 Q x.1 vx S1 rx (PostE.step S1 st1 k)

/-! ### reading data -/
theorem Rb.int {i : Int} {v : V} (h : Rb w g H (.int i) v) : v = .int i := by simpa [Rb, Rp] using h
theorem Rb.bl {i : Bool} {v : V} (h : Rb w g H (.bl i) v) : v = .bl i := by simpa [Rb, Rp] using h
theorem Rb.non {v : V} (h : Rb w g H .non v) : v = .non := by simpa [Rb, Rp] using h
theorem Rb.str {s : Str} {v : V} (h : Rb w g H (.str s) v) : v = .str s ∧ PyData.strOk s = true := by simpa [Rb, Rp] using h
theorem Rb.tup (S : Sim w xr b g z σ H) {ds : List D} {v : V} (h : Rb w g H (.tup ds) v) : ∃ a vs, v = .ref a ∧ H a = some (.tup vs) ∧ Rps g.F g.al ds vs := by
  simp only [Rb, Rp] at h
  obtain ⟨a, vs, e, q, r⟩ := h
  exact ⟨a, vs, e, S.sub _ _ q, r⟩
theorem rdL_of (S : Sim w xr b g z σ H) {d : D} {v : V} {ds : List D} (h : Rb w g H d v) (e : rdL z.os d = some ds) : ∃ a vs, v = .ref a ∧ Rd H a (.lst vs) ∧ Rps g.F g.al ds vs := by
  cases d with
  | lst ds' =>
    simp only [rdL] at e; cases e
    obtain ⟨a, vs, e1, q, r⟩ := h
    exact ⟨a, vs, e1, unbox_sub.rd q, r⟩
  | box i =>
    simp only [rdL] at e
    split at e
    · rename_i ds' hi
      cases e
      have h' : Rp g.F g.al (.box i) v := h
      simp only [Rp] at h'
      obtain ⟨a, ha, rfl⟩ := h'
      obtain ⟨a', ha', q⟩ := S.boxAt hi
      rw [ha] at ha'; cases ha'
      obtain ⟨vs, q1, q2⟩ := q
      exact ⟨a, vs, rfl, .inl q1, q2⟩
    · cases e
  | _ => simp [rdL] at e
theorem Inv.rdl {pins : List (Addr × Obj)} {s : Shared} {a : Addr} {vs : List V} (I : Inv X pins σ H s) (h : Rd H a (.lst vs)) :
    vs.length ≤ sizeLine ∧ ∃ (its : List Value) (n : Nat), Vals vs its ∧ vs.length = its.length ∧ s.heap.get? a = some { cls := .type "list", data := .seq its.toArray n } := by
  obtain ⟨z, its, n, r, e⟩ := h.ok I.hok
  exact ⟨z, its, n, r, r.length, e⟩
theorem Inv.rdt {pins : List (Addr × Obj)} {s : Shared} {a : Addr} {vs : List V} (I : Inv X pins σ H s) (h : H a = some (.tup vs)) :
    vs.length ≤ sizeLine ∧ ∃ its : List Value, Vals vs its ∧ vs.length = its.length ∧ PyProof.Rows.IsTup s.heap a its.toArray := by
  obtain ⟨z, its, r, e⟩ := I.hok _ _ h
  exact ⟨z, its, r, r.length, e⟩
end
end Vi

namespace Vi
open PySem L2

/-! ### texts -/
theorem strOk_append {s t : Str} (hs : PyData.strOk s = true) (ht : PyData.strOk t = true) : PyData.strOk (s ++ t) = true := by
  unfold PyData.strOk at *
  rw [Array.all_eq_true'] at *
  intro x hx
  have e : (s ++ t).cps = s.cps ++ t.cps := rfl
  rw [e] at hx
  rcases Array.mem_append.mp hx with h | h
  · exact hs x h
  · exact ht x h
theorem strOk_of {s t : Str} (hs : PyData.strOk s = true) (h : ∀ c ∈ t.cps.toList, c ∈ s.cps.toList) : PyData.strOk t = true := by
  unfold PyData.strOk at *
  rw [Array.all_eq_true'] at *
  intro x hx
  exact hs x (by simpa using h x (by simpa using hx))

section
variable {w : Wd} {xr : Nat → Option Addr → V → Prop} {X : Cx} {W : WX} {b : Bs} {g : Gh} {z : Z} {σ : St} {H : Hp} {Q : VK}

def rCatR : R2 := fun x y H Q => ∃ l m xs ys, x = .ref l ∧ y = .ref m ∧ Rd H l (.lst xs) ∧ Rd H m (.lst ys) ∧ xs.length + ys.length ≤ sizeLine ∧ ∀ p, H p = none → Q (.ref p) (upd H p (.lst (xs ++ ys)))
theorem op_catR : OpR X (binaryOp .Add) rCatR := by
  rintro pins s σ H x y v u Q I rx ry ⟨l, m, xs, ys, rfl, rfl, h1, h2, hz, q⟩
  cases rx; cases ry
  obtain ⟨_, as, n, ra, la, ea⟩ := Inv.rdl I h1
  obtain ⟨_, bs, k, rb, lb, eb⟩ := Inv.rdl I h2
  refine PySem.P.add_list ea eb ?_ (by rw [List.size_toArray, List.size_toArray, ← la, ← lb]; exact hz)
  rw [show as.toArray ++ bs.toArray = (as ++ bs).toArray by simp]
  exact ⟨.ref _, _, I.lnew (t' := s.toks) (ra.append rb) (by rw [List.length_append]; exact hz), rfl, q _ I.fresh⟩
def rMulS : R2 := fun x y H Q => ∃ s k, x = .str s ∧ y = .int k ∧ s.length * k.toNat ≤ 1000000 ∧ k < 1000000 ∧ -1000000 < k ∧ Q (.str (Txt.mul s k)) H
theorem op_mulS : OpR X (binaryOp .Mult) rMulS := by
  rintro pins s σ H x y v u Q I rx ry ⟨t, k, rfl, rfl, h1, h2, h3, q⟩
  obtain ⟨tk, rfl⟩ := rx
  obtain ⟨tk', rfl⟩ := ry
  have hN : k.toNat ≤ 16777216 := by omega
  have hok : MulOk t k := PyProof.Rows.mulOk_of t.length k.toNat (Nat.le_refl _) (by omega) (by omega) hN (by omega)
  exact PySem.SB.mul hok fun t' k' => ⟨.str _, H, I.tok _, ⟨_, rfl⟩, q⟩
theorem foldl_app (x : Array Nat) : ∀ (k : Nat) (acc : Array Nat), ((List.replicate k x).foldl (· ++ ·) acc).toList = acc.toList ++ (List.replicate k x.toList).flatten
  | 0, acc => by simp
  | k + 1, acc => by
    rw [List.replicate_succ, List.foldl_cons, foldl_app x k]
    simp [List.replicate_succ]
theorem mul_rep (s : Str) (k : Int) : Txt.mul s k = repS s k.toNat := by
  unfold Txt.mul repS
  split
  · rename_i h
    have : k.toNat = 0 := by omega
    rw [this]; rfl
  · split
    · rename_i h1 h2
      rw [Bool.or_eq_true] at h2
      rcases h2 with h2 | h2
      · have : k = 1 := by simpa using h2
        subst this
        simp
      · have hs : s.cps = #[] := by
          have : s.cps.size = 0 := by simpa [Str.length] using h2
          exact Array.eq_empty_of_size_eq_zero this
        cases s with
        | mk c =>
          simp only at hs
          subst hs
          simp
    · have := foldl_app s.cps k.toNat #[]
      congr 1
      apply Array.toList_inj.mp
      rw [this]
      simp
theorem strOk_rep {s : Str} (k : Nat) (h : PyData.strOk s = true) : PyData.strOk (repS s k) = true := strOk_of h fun c hc => by
  unfold repS at hc
  simp only [List.toList_toArray, List.mem_flatten, List.mem_replicate] at hc
  obtain ⟨l, ⟨_, rfl⟩, hc⟩ := hc
  exact hc
def CMulV (i j : Int) : Prop := mulOk i j = true
theorem CMulV.ok {i j : Int} (h : CMulV i j) : IntMulOk i j := by
  have b : ∀ x : Int, Builtin.Int.intBits x ≤ x.natAbs.log2 + 1 := fun x => by
    unfold Builtin.Int.intBits
    split <;> omega
  have h1 := b i
  have h2 := b j
  have h3 : i.natAbs.log2 + j.natAbs.log2 < 100000000 := by simpa [CMulV, mulOk] using h
  have e : bitsLine = 134217728 := by decide
  unfold IntMulOk
  intro q
  simp only [Builtin.Int.intTooBig, Bool.and_eq_true, decide_eq_true_eq] at q
  omega
theorem op_mulV : OpR X (binaryOp .Mult) (rI CMulV fun i j => .int (i * j)) := opI fun _ _ _ _ _ _ _ hc q => PyProof.Rows.mul_int q hc.ok

/-- a list that is read, some times over -/
def rRepL : R2 := fun x y H Q => ∃ a j ws, x = .ref a ∧ y = .int j ∧ Rd H a (.lst ws) ∧ -(2 ^ 63) ≤ j ∧ j < 2 ^ 63 ∧ ws.length * j.toNat ≤ sizeLine ∧ ∀ p, H p = none → Q (.ref p) (upd H p (.lst (List.replicate j.toNat ws).flatten))
theorem op_repR : OpR X (binaryOp .Mult) rRepL := by
  rintro pins s σ H x y v u Q I rx ry ⟨a, j, ws, rfl, rfl, hr, j1, j2, jz, q⟩
  cases rx
  obtain ⟨tk, rfl⟩ := ry
  obtain ⟨_, us, c, ru, lu, eu⟩ := Inv.rdl I hr
  have sz : us.toArray.size * j.toNat ≤ sizeLine := by rw [List.size_toArray, ← lu]; exact jz
  have f1 : ¬ us.toArray.size * j.toNat > (2 ^ 63 - 1) / 8 := by have : (sizeLine : Nat) ≤ (2 ^ 63 - 1) / 8 := by decide
                                                                 omega
  have f2 : ¬ (!Builtin.List.listFitsIndex j) = true := by rw [fitsIndex_both j1 j2]; exact Bool.false_ne_true
  have f3 : ¬ Builtin.List.listTooLong (us.toArray.size * j.toNat) = true := by rw [notLongL sz]; exact Bool.false_ne_true
  have flat : ∀ m : Nat, List.foldl (fun b c => b ++ c) #[] (List.replicate m us.toArray) = (List.replicate m us).flatten.toArray := fun m => by
    have z := foldl_rep us m []
    rw [List.nil_append] at z; exact z
  have f4 : List.foldl (fun b c => b ++ c) #[] (List.replicate (if us.toArray.isEmpty = true then 0 else j.toNat) us.toArray) = (List.replicate j.toNat us).flatten.toArray := by
    rw [flat]
    cases us with
    | nil => simp
    | cons w r => simp
  refine wpAny_binaryOp_repeat_ref (T := "list") (U := "int") (by decide) ⟨_, eu, rfl⟩ (fun s2 => typeIs_int s2 j tk) noFill_list_mul F.fills_int_mul F.slot_int_rmul repeat_list F.slot_int_index.lookup
    (call_meets F.slot_int_rmul (typeIs_int s j tk) F.entry_int_rmul (F.args_int_rmul_2 _ _) (int___rmul___int_list j tk a us.toArray c) ⟨eu, rfl, ⟨_, eu, rfl⟩,
      call_meets F.slot_list_mul ⟨_, eu, rfl⟩ F.entry_list_mul (F.args_list_mul_2 _ _) (AutoListH.list___mul___list_int_3 a us.toArray c j tk f2 f1 f3) ⟨eu, ?_⟩⟩)
  rw [f4]
  exact ⟨.ref _, _, I.lnew (t' := s.toks) (ru.rep j.toNat) (by rw [PyProof.Rows.lm_len_rep_flat, Nat.mul_comm]; exact jz), rfl, q _ I.fresh⟩
theorem rps_rep {F : Hp} {al : List Addr} {ds : List D} {vs : List V} (h : Rps F al ds vs) : ∀ n : Nat, Rps F al (List.replicate n ds).flatten (List.replicate n vs).flatten
  | 0 => by simpa using Rps.nil
  | n + 1 => by
    rw [List.replicate_succ, List.replicate_succ, List.flatten_cons, List.flatten_cons]
    exact Rps.append h (rps_rep h n)

/-! ### the operators -/
def orR (r r' : R2) : R2 := fun x y H Q => r x y H Q ∨ r' x y H Q
def rStrAdd : R2 := fun x y H Q => ∃ i j, x = .str i ∧ y = .str j ∧ i.length + j.length ≤ sizeLine ∧ Q (.str (i ++ j)) H
def rBin (K : PySem.W.Frag) : Bop → R2
  | .add => orR (rI0 fun i j => .int (i + j)) (orR rStrAdd (orR (rCatA K) rCatR))
  | .sub => rI0 fun i j => .int (i - j)
  | .mul => orR (rI CMulV fun i j => .int (i * j)) (orR rMulS rRepL)
  | .fdiv => rI CDivW fun i j => .int (i / j)
  | .mod => rI (fun _ j => 0 < j) fun i j => .int (i % j)
  | .pow => rI CPow fun i j => .int (i ^ j.toNat)
def bopO : Bop → Operator
  | .add => .Add
  | .sub => .Sub
  | .mul => .Mult
  | .fdiv => .FloorDiv
  | .mod => .Mod
  | .pow => .Pow
theorem op_bin : ∀ o : Bop, OpR X (binaryOp (bopO o)) (rBin X.K o)
  | .add => op_add.or (op_add_str.or (op_catA.or op_catR))
  | .sub => op_sub
  | .mul => op_mulV.or (op_mulS.or op_repR)
  | .fdiv => op_fdivW
  | .mod => op_mod
  | .pow => op_pow
theorem cel_lst {F : Hp} {al : List Addr} {ds : List D} {vs : List V} {p : Addr} (r : Rps F al ds vs) : Cel F al (upd H p (.lst vs)) p (.lst ds) := ⟨vs, upd_same, r⟩
theorem Rps.nil_iff {F : Hp} {al : List Addr} {ds : List D} {vs : List V} (r : Rps F al ds vs) : vs = [] ↔ ds = [] := by
  have := Rps.length r
  constructor
  · intro h; subst h; exact List.length_eq_zero_iff.mp (by simpa using this.symm)
  · intro h; subst h; exact List.length_eq_zero_iff.mp (by simpa using this)
theorem PostE.tupRd {ds : List D} {vs : List V} {a : Addr} (S : Sim w xr b g z σ H) (h : Rd H a (.tup vs)) (hr : Rps g.F g.al ds vs) (hF : Rp g.F g.al (.tup ds) (.ref a)) (k : PostE w xr W b g σ H Q (.ok (.tup ds, false) z)) : Q (.ref a) H := k.now S hF
theorem bin_hr (o : Bop) : ∀ b g z σ H Q x y vx vy, Sim w xr b g z σ H → Rb w g H x vx → Rb w g H y vy → PostE w xr W b g σ H Q (ofT z (binD o z.os x y)) → rBin X.K o vx vy H Q := by
  intro b g z σ H Q x y vx vy S rx ry k
  have lists : ∀ ds es, rdL z.os x = some ds → rdL z.os y = some es → PostE w xr W b g σ H Q (ofT z (if ds.length + es.length ≤ sizeLine then some (.lst (ds ++ es), true) else none)) → rCatR vx vy H Q := by
    intro ds es h1 h2 k
    obtain ⟨a, vs, rfl, r1, q1⟩ := rdL_of S rx h1
    obtain ⟨c, us, rfl, r2, q2⟩ := rdL_of S ry h2
    split at k
    · rename_i hz
      refine ⟨a, c, vs, us, rfl, rfl, r1, r2, by rw [Rps.length q1, Rps.length q2]; exact hz, fun p hp => ?_⟩
      exact k.new S hp rfl (cel_lst (Rps.append q1 q2))
    · exact k.elim
  cases o with
  | add =>
    simp only [binD] at k
    split at k
    · rename_i i j
      rw [rx.int, ry.int]
      exact .inl ⟨i, j, rfl, rfl, k.now S (rp_int _ _)⟩
    · rename_i s t
      obtain ⟨rfl, hs⟩ := rx.str
      obtain ⟨rfl, ht⟩ := ry.str
      split at k
      · rename_i hz
        exact .inr (.inl ⟨s, t, rfl, rfl, hz, k.now S (rp_str (strOk_append hs ht) _ _)⟩)
      · exact k.elim
    · rename_i ds es
      split at k
      · rename_i hz
        have rx' : Rp g.F g.al (.tup ds) vx := rx
        have ry' : Rp g.F g.al (.tup es) vy := ry
        obtain ⟨a, vs, rfl, r1, q1⟩ := rx.tup S
        obtain ⟨c, us, rfl, r2, q2⟩ := ry.tup S
        refine .inr (.inr (.inl ⟨a, c, vs, us, rfl, rfl, SqT.of r1, SqT.of r2, by rw [Rps.length q1, Rps.length q2]; exact hz, fun h => ?_, fun _ h => ?_, fun _ _ p hp => ?_⟩))
        · have := (Rps.nil_iff q1).mp h; subst this
          exact k.now S (by simpa using ry')
        · have := (Rps.nil_iff q2).mp h; subst this
          exact k.now S (by simpa using rx')
        · exact k.tup S hp (Rps.append q1 q2)
      · exact k.elim
    · split at k
      · rename_i ds es h1 h2
        exact .inr (.inr (.inr (lists ds es h1 h2 k)))
      · exact k.elim
  | sub =>
    simp only [binD] at k
    split at k
    · rename_i i j
      rw [rx.int, ry.int]
      exact ⟨i, j, rfl, rfl, k.now S (rp_int _ _)⟩
    · exact k.elim
  | mul =>
    simp only [binD] at k
    split at k
    · rename_i i j
      rw [rx.int, ry.int]
      split at k
      · rename_i h
        exact .inl ⟨i, j, rfl, rfl, h, k.now S (rp_int _ _)⟩
      · exact k.elim
    · rename_i s j
      obtain ⟨rfl, hs⟩ := rx.str
      rw [ry.int]
      split at k
      · rename_i h
        exact .inr (.inl ⟨s, j, rfl, rfl, h.1, h.2.1, h.2.2, by rw [mul_rep]; exact k.now S (rp_str (strOk_rep _ hs) _ _)⟩)
      · exact k.elim
    · rename_i j _ _
      rw [ry.int]
      split at k
      · rename_i ds hd
        split at k
        · rename_i h
          obtain ⟨a, vs, rfl, r1, q1⟩ := rdL_of S rx hd
          have hz : vs.length * j.toNat ≤ sizeLine := by rw [Rps.length q1, PySem.sizeLine_eq]; have := h.1; omega
          exact .inr (.inr ⟨a, j, vs, rfl, rfl, r1, by have := h.2.2; omega, by have := h.2.1; omega, hz, fun p hp => k.new S hp rfl (cel_lst (rps_rep q1 _))⟩)
        · exact k.elim
      · exact k.elim
    · exact k.elim
  | fdiv =>
    simp only [binD] at k
    split at k
    · rename_i i j
      rw [rx.int, ry.int]
      split at k
      · rename_i h
        exact ⟨i, j, rfl, rfl, h, k.now S (rp_int _ _)⟩
      · exact k.elim
    · exact k.elim
  | mod =>
    simp only [binD] at k
    split at k
    · rename_i i j
      rw [rx.int, ry.int]
      split at k
      · rename_i h
        exact ⟨i, j, rfl, rfl, h, k.now S (rp_int _ _)⟩
      · exact k.elim
    · exact k.elim
  | pow =>
    simp only [binD] at k
    split at k
    · rename_i i j
      rw [rx.int, ry.int]
      split at k
      · rename_i h
        exact ⟨i, j, rfl, rfl, h, k.now S (rp_int _ _)⟩
      · exact k.elim
    · exact k.elim
theorem s_bin {cf : CF} {o : Bop} {ea eb : Expr} {ia ib : E} {pos : Pos} (ha : SndB w xr X W ea fun z => fst1 (evalE cf ia z)) (hb : SndB w xr X W eb fun z => fst1 (evalE cf ib z)) :
    SndE w xr X W (.BinOp ea (bopO o) eb pos) (evalE cf (.bin o ia ib)) := by
  have := fun h => (show SndE w xr X W (.BinOp ea (bopO o) eb pos) _ from s_two (w := w) (xr := xr) (W := W) (P := PE X (.BinOp ea (bopO o) eb pos)) (r := rBin X.K o) (G := fun z x y => ofT z (binD o z.os x y)) ha hb (fun ta tb pa pb => pe_op (op_bin o) pa pb) h)
  simpa only [evalE] using this (bin_hr o)
end
end Vi

namespace Vi
open PySem L2

/-! ### data as the library has it -/
mutual
def pyD : D → PyData
  | .non => .none
  | .bl b => .bool b
  | .int i => .int i
  | .str s => .str s
  | .tup ds => .tuple (pyDs ds)
  | .lst ds => .list (pyDs ds)
  | .dct _ => .none
  | .box _ => .none
def pyDs : List D → List PyData
  | [] => []
  | d :: ds => pyD d :: pyDs ds
end
theorem deps_cons {x : D} {xs : List D} {n : Nat} (h : deps (x :: xs) = some n) : ∃ a b, dep x = some a ∧ deps xs = some b ∧ n = max a b := by
  simp only [deps] at h
  split at h
  · rename_i a b h1 h2
    cases h; exact ⟨a, b, h1, h2, rfl⟩
  · cases h
theorem dep_lst {xs : List D} {n : Nat} (h : dep (.lst xs) = some n) : ∃ a, deps xs = some a ∧ n = a + 1 := by
  simp only [dep, Option.map_eq_some_iff] at h
  obtain ⟨a, h1, h2⟩ := h
  exact ⟨a, h1, h2.symm⟩
theorem dep_tup {xs : List D} {n : Nat} (h : dep (.tup xs) = some n) : ∃ a, deps xs = some a ∧ n = a + 1 := by
  simp only [dep, Option.map_eq_some_iff] at h
  obtain ⟨a, h1, h2⟩ := h
  exact ⟨a, h1, h2.symm⟩

section
variable {K : PySem.W.Frag} {F H : Hp} {al : List Addr}
mutual
theorem dp_of (hs : Sub F H) : ∀ (d : D) (v : V) (n : Nat), Rp F al d v → dep d = some n → Dp K H v (pyD d) ∧ (pyD d).canLay0 = true ∧ (pyD d).depth = n
  | .non, v, n, r, e => by
    simp only [Rp] at r; subst r; simp only [dep] at e; cases e
    exact ⟨by simp only [pyD]; exact .non, rfl, rfl⟩
  | .bl b, v, n, r, e => by
    simp only [Rp] at r; subst r; simp only [dep] at e; cases e
    exact ⟨by simp only [pyD]; exact .bl b, rfl, rfl⟩
  | .int b, v, n, r, e => by
    simp only [Rp] at r; subst r; simp only [dep] at e; cases e
    exact ⟨by simp only [pyD]; exact .int b, rfl, rfl⟩
  | .str b, v, n, r, e => by
    simp only [Rp] at r; obtain ⟨rfl, h⟩ := r; simp only [dep] at e; cases e
    exact ⟨by simp only [pyD]; exact .str b, by simp only [pyD, PyData.canLay0]; exact h, rfl⟩
  | .tup ds, v, n, r, e => by
    simp only [Rp] at r
    obtain ⟨a, vs, rfl, q, t⟩ := r
    obtain ⟨m, e1, rfl⟩ := dep_tup e
    obtain ⟨h1, h2, h3⟩ := dps_of hs ds vs m t e1
    simp only [pyD, PyData.canLay0, PyData.depth]
    exact ⟨.tup (SqT.of (hs _ _ q)) h1, h2, by rw [h3]⟩
  | .lst ds, v, n, r, e => by
    simp only [Rp] at r
    obtain ⟨a, vs, rfl, q, t⟩ := r
    obtain ⟨m, e1, rfl⟩ := dep_lst e
    obtain ⟨h1, h2, h3⟩ := dps_of hs ds vs m t e1
    simp only [pyD, PyData.canLay0, PyData.depth]
    exact ⟨.lst (.inl (hs.rd q)) h1, h2, by rw [h3]⟩
  | .dct _, _, _, _, e => by simp [dep] at e
  | .box _, _, _, _, e => by simp [dep] at e
theorem dps_of (hs : Sub F H) : ∀ (ds : List D) (vs : List V) (n : Nat), Rps F al ds vs → deps ds = some n → DpAll K H vs (pyDs ds) ∧ PyData.canLayAll0 (pyDs ds) = true ∧ PyData.depthAll (pyDs ds) = n
  | [], vs, n, r, e => by
    simp only [Rps] at r; subst r; simp only [deps] at e; cases e
    exact ⟨by simp only [pyDs]; exact .nil, rfl, rfl⟩
  | d :: ds, vs, n, r, e => by
    simp only [Rps] at r
    obtain ⟨v, u, rfl, r1, r2⟩ := r
    obtain ⟨a, c, e1, e2, rfl⟩ := deps_cons e
    obtain ⟨h1, h2, h3⟩ := dp_of hs d v a r1 e1
    obtain ⟨h4, h5, h6⟩ := dps_of hs ds u c r2 e2
    simp only [pyDs, PyData.canLayAll0, PyData.depthAll]
    exact ⟨.cons h1 h4, by rw [h2, h5]; rfl, by rw [h3, h6]⟩
end
end
mutual
theorem eqv_eqD : ∀ (d e : D) (m n : Nat), dep d = some m → dep e = some n → PyData.eqv (pyD d) (pyD e) = eqD d e
  | .non, e, m, n, h, h' => by cases e <;> first | rfl | (simp [dep] at h')
  | .bl b, e, m, n, h, h' => by cases e <;> first | rfl | (simp [dep] at h')
  | .int b, e, m, n, h, h' => by cases e <;> first | rfl | (simp [dep] at h')
  | .str b, e, m, n, h, h' => by
    cases e with
    | str c => simp only [pyD, PyData.eqv, eqD]; rw [Bool.beq_eq_decide_eq]
    | dct _ => simp [dep] at h'
    | box _ => simp [dep] at h'
    | _ => rfl
  | .tup ds, e, m, n, h, h' => by
    obtain ⟨m', e1, rfl⟩ := dep_tup h
    cases e with
    | tup es =>
      obtain ⟨n', e2, rfl⟩ := dep_tup h'
      simp only [pyD, PyData.eqv, eqD]
      exact eqvs_eqDs ds es m' n' e1 e2
    | dct _ => simp [dep] at h'
    | box _ => simp [dep] at h'
    | _ => rfl
  | .lst ds, e, m, n, h, h' => by
    obtain ⟨m', e1, rfl⟩ := dep_lst h
    cases e with
    | lst es =>
      obtain ⟨n', e2, rfl⟩ := dep_lst h'
      simp only [pyD, PyData.eqv, eqD]
      exact eqvs_eqDs ds es m' n' e1 e2
    | dct _ => simp [dep] at h'
    | box _ => simp [dep] at h'
    | _ => rfl
  | .dct _, e, m, n, h, h' => by simp [dep] at h
  | .box _, e, m, n, h, h' => by simp [dep] at h
theorem eqvs_eqDs : ∀ (ds es : List D) (m n : Nat), deps ds = some m → deps es = some n → PyData.eqvAll (pyDs ds) (pyDs es) = eqDs ds es
  | [], [], _, _, _, _ => rfl
  | [], _ :: _, _, _, _, _ => rfl
  | _ :: _, [], _, _, _, _ => rfl
  | d :: ds, e :: es, m, n, h, h' => by
    obtain ⟨a, c, e1, e2, rfl⟩ := deps_cons h
    obtain ⟨a', c', e1', e2', rfl⟩ := deps_cons h'
    simp only [pyDs, PyData.eqvAll, eqDs]
    rw [eqv_eqD d e a a' e1 e1', eqvs_eqDs ds es c c' e2 e2']
end

section
variable {w : Wd} {xr : Nat → Option Addr → V → Prop} {X : Cx} {W : WX} {b : Bs} {g : Gh} {z : Z} {σ : St} {H : Hp} {Q : VK}

/-- a value that is read, in the heap as it is -/
theorem Rb.rpH (S : Sim w xr b g z σ H) {d : D} {v : V} (h : Rb w g H d v) : Rp H g.al d v := by
  cases d with
  | lst ds =>
    obtain ⟨a, vs, e, q, r⟩ := h
    simp only [Rp]
    exact ⟨a, vs, e, unbox_sub.rd q, Rps.mono S.sub (.refl _) _ _ r⟩
  | dct kvs =>
    obtain ⟨a, e, q⟩ := h
    simp only [Rp]
    refine ⟨a, e, ?_⟩
    rcases q with ⟨l, q, r⟩ | ⟨l, q, r⟩
    · exact .inl ⟨l, unbox_sub _ _ q, Rkv.mono S.sub (.refl _) _ _ r⟩
    · exact .inr ⟨l, unbox_sub _ _ q, Rkt.mono S.sub (.refl _) _ _ r⟩
  | _ => exact Rp.mono S.sub (.refl _) _ _ h
theorem snap_rp (S : Sim w xr b g z σ H) {d : D} {v : V} (h : Rb w g H d v) : Rp H g.al (snap z.os d) v := by
  cases d with
  | box i =>
    simp only [snap]
    split
    · rename_i ds hi
      obtain ⟨a, vs, e, q, r⟩ := rdL_of S (ds := ds) h (by simp [rdL, hi])
      simp only [Rp]
      exact ⟨a, vs, e, q, Rps.mono S.sub (.refl _) _ _ r⟩
    · exact h.rpH S
  | _ => exact h.rpH S
mutual
theorem ex1_rp (S : Sim w xr b g z σ H) : ∀ (d : D) (v : V), Rp H g.al d v → Rp H g.al (ex1 z.os d) v
  | .lst ds, v, r => by
    simp only [Rp] at r
    obtain ⟨a, vs, e, q, t⟩ := r
    simp only [ex1, Rp]
    exact ⟨a, vs, e, q, ex1s_rp S ds vs t⟩
  | .tup ds, v, r => by
    simp only [Rp] at r
    obtain ⟨a, vs, e, q, t⟩ := r
    simp only [ex1, Rp]
    exact ⟨a, vs, e, q, ex1s_rp S ds vs t⟩
  | .box i, v, r => by
    simp only [ex1]
    split
    · rename_i ds hi
      obtain ⟨a, a1, xs, h1, h2⟩ := S.boxAt hi
      simp only [Rp] at r
      obtain ⟨a', a2, rfl⟩ := r
      rw [a1] at a2
      cases a2
      simp only [Rp]
      exact ⟨a, xs, rfl, .inl h1, Rps.mono S.sub (.refl _) _ _ h2⟩
    · exact r
  | .non, v, r => r
  | .bl _, v, r => r
  | .int _, v, r => r
  | .str _, v, r => r
  | .dct _, v, r => r
theorem ex1s_rp (S : Sim w xr b g z σ H) : ∀ (ds : List D) (vs : List V), Rps H g.al ds vs → Rps H g.al (ex1s z.os ds) vs
  | [], vs, r => r
  | d :: ds, vs, r => by
    simp only [Rps] at r
    obtain ⟨v, u, e, r1, r2⟩ := r
    simp only [ex1s, Rps]
    exact ⟨v, u, e, ex1_rp S d v r1, ex1s_rp S ds u r2⟩
end
theorem ex3_rp (S : Sim w xr b g z σ H) {d : D} {v : V} (h : Rb w g H d v) : Rp H g.al (ex3 z.os d) v := ex1_rp S _ _ (ex1_rp S _ _ (ex1_rp S _ _ (h.rpH S)))
theorem shaped_of {d : D} {n : Nat} (h : (pyD d).canLay0 = true ∧ (pyD d).depth = n) (hn : n ≤ 60) : SeqAt.shaped (pyD d) = true := by
  unfold SeqAt.shaped
  rw [h.1, h.2]
  simp only [Bool.true_and, decide_eq_true_eq]
  omega

def rInS (neg : Bool) : R2 := fun x y H Q => ∃ i j, x = .str i ∧ y = .str j ∧ Q (.bl (if neg then !hasS j i else hasS j i)) H
theorem op_inS : OpR X (compareOp .In) (rInS false) := op_in_str
theorem op_notInS : OpR X (compareOp .NotIn) (rInS true) := op_notIn_str
def rInD (neg : Bool) : R2 := fun x y H Q => ∃ a o, y = .ref a ∧ DGet H a x o ∧ Q (.bl (if neg then !o.isSome else o.isSome)) H
theorem op_inD (hu : X.A.units + 1 < cLine) : OpR X (compareOp .In) (rInD false) := by
  rintro pins s σ H x y v u Q I rx ry ⟨a, o, rfl, h, q⟩
  cases ry
  exact d_in hu I h rx fun s' I' => ⟨.bl _, H, I', rfl, q⟩
theorem op_notInD (hu : X.A.units + 1 < cLine) : OpR X (compareOp .NotIn) (rInD true) := by
  rintro pins s σ H x y v u Q I rx ry ⟨a, o, rfl, h, q⟩
  cases ry
  exact d_notIn hu I h rx fun s' I' => ⟨.bl _, H, I', rfl, q⟩

/-! ### in a list of tuples and the like -/
theorem relv_fun {v v' : V} {u : Value} (h : RelV v u) (h' : RelV v' u) : v = v' := by
  cases v <;> cases v' <;> simp only [RelV] at h h' <;> (first | (obtain ⟨t, rfl⟩ := h) | (subst h)) <;>
    (first | (obtain ⟨t', h'⟩ := h'; cases h'; rfl) | (cases h'; rfl) | (obtain ⟨t', h'⟩ := h'; cases h'; done) | (cases h'; done))
mutual
theorem rp_fun {F : Hp} {al : List Addr} : ∀ (d e : D) (v : V) (m n : Nat), Rp F al d v → Rp F al e v → dep d = some m → dep e = some n → d = e
  | .non, e, v, m, n, h, h', _, hn => by
    simp only [Rp] at h; subst h
    cases e <;> simp only [Rp] at h' <;> first | rfl | (simp [dep] at hn; done) | (simp at h'; done) | skip
  | .bl b, e, v, m, n, h, h', _, hn => by
    simp only [Rp] at h; subst h
    cases e <;> simp only [Rp] at h' <;> first | (cases h'; rfl) | (simp [dep] at hn; done) | (simp at h'; done) | skip
  | .int b, e, v, m, n, h, h', _, hn => by
    simp only [Rp] at h; subst h
    cases e <;> simp only [Rp] at h' <;> first | (cases h'; rfl) | (simp [dep] at hn; done) | (simp at h'; done) | skip
  | .str b, e, v, m, n, h, h', _, hn => by
    simp only [Rp] at h; obtain ⟨rfl, _⟩ := h
    cases e <;> simp only [Rp] at h' <;> first | (obtain ⟨h', _⟩ := h'; cases h'; rfl) | (simp [dep] at hn; done) | (simp at h'; done) | skip
  | .tup ds, e, v, m, n, h, h', hm, hn => by
    simp only [Rp] at h; obtain ⟨a, vs, rfl, q, t⟩ := h
    obtain ⟨m', hm', _⟩ := dep_tup hm
    cases e <;> simp only [Rp] at h' <;> first | (simp [dep] at hn; done) | (simp at h'; done) | skip
    · rename_i es
      obtain ⟨a', vs', e1, q', t'⟩ := h'
      cases e1
      rw [q] at q'; cases q'
      obtain ⟨n', hn', _⟩ := dep_tup hn
      rw [rps_fun ds es vs m' n' t t' hm' hn']
    · rename_i es
      obtain ⟨a', vs', e1, q', t'⟩ := h'
      cases e1
      rcases q' with q' | ⟨_, q'⟩ <;> rw [q] at q' <;> cases q'
  | .lst ds, e, v, m, n, h, h', hm, hn => by
    simp only [Rp] at h; obtain ⟨a, vs, rfl, q, t⟩ := h
    obtain ⟨m', hm', _⟩ := dep_lst hm
    cases e <;> simp only [Rp] at h' <;> first | (simp [dep] at hn; done) | (simp at h'; done) | skip
    · rename_i es
      obtain ⟨a', vs', e1, q', t'⟩ := h'
      cases e1
      rcases q with q | ⟨_, q⟩ <;> rw [q] at q' <;> cases q'
    · rename_i es
      obtain ⟨a', vs', e1, q', t'⟩ := h'
      cases e1
      obtain ⟨n', hn', _⟩ := dep_lst hn
      have : vs = vs' := by
        rcases q with q | ⟨_, q⟩ <;> rcases q' with q' | ⟨_, q'⟩ <;> rw [q] at q' <;> cases q' <;> rfl
      subst this
      rw [rps_fun ds es vs m' n' t t' hm' hn']
  | .dct _, _, _, _, _, _, _, hm, _ => by simp [dep] at hm
  | .box _, _, _, _, _, _, _, hm, _ => by simp [dep] at hm
theorem rps_fun {F : Hp} {al : List Addr} : ∀ (ds es : List D) (vs : List V) (m n : Nat), Rps F al ds vs → Rps F al es vs → deps ds = some m → deps es = some n → ds = es
  | [], es, vs, m, n, h, h', _, _ => by
    simp only [Rps] at h; subst h
    cases es with
    | nil => rfl
    | cons e es => simp only [Rps] at h'; obtain ⟨_, _, h', _⟩ := h'; cases h'
  | d :: ds, es, vs, m, n, h, h', hm, hn => by
    simp only [Rps] at h
    obtain ⟨v, r, rfl, h1, h2⟩ := h
    cases es with
    | nil => simp only [Rps] at h'; cases h'
    | cons e es =>
      simp only [Rps] at h'
      obtain ⟨v', r', e0, h3, h4⟩ := h'
      cases e0
      obtain ⟨a, c, e1, e2, _⟩ := deps_cons hm
      obtain ⟨a', c', e3, e4, _⟩ := deps_cons hn
      rw [rp_fun d e v a a' h1 h3 e1 e3, rps_fun ds es r c c' h2 h4 e2 e4]
end
/-- what the answer is, read off the value -/
def eqW (F : Hp) (al : List Addr) (x : D) (u : Value) : Prop := ∃ d v m, RelV v u ∧ Rp F al d v ∧ dep d = some m ∧ eqD d x = true
open Classical in
theorem eqW_of {F : Hp} {al : List Addr} {x d : D} {v : V} {u : Value} {m : Nat} (r : RelV v u) (h : Rp F al d v) (e : dep d = some m) : decide (eqW F al x u) = eqD d x := by
  rw [Bool.eq_iff_iff, decide_eq_true_eq]
  constructor
  · rintro ⟨d', v', m', r', h', e', q⟩
    cases relv_fun r r'
    rw [rp_fun d d' v m m' h h' e e']; exact q
  · intro q; exact ⟨d, v, m, r, h, e, q⟩
open Classical in
theorem any_eqW {F : Hp} {al : List Addr} {x : D} : ∀ {ds : List D} {vs : List V} {us : List Value} {n : Nat}, Vals vs us → Rps F al ds vs → deps ds = some n → (us.any fun u => decide (eqW F al x u)) = ds.any fun d => eqD d x
  | [], vs, us, n, r, h, _ => by
    simp only [Rps] at h; subst h
    cases r; rfl
  | d :: ds, vs, us, n, r, h, e => by
    simp only [Rps] at h
    obtain ⟨v, t, rfl, h1, h2⟩ := h
    obtain ⟨a, c, e1, e2, _⟩ := deps_cons e
    cases r with
    | cons r1 r2 => rw [List.any_cons, List.any_cons, eqW_of r1 h1 e1, any_eqW r2 h2 e2]
def rInX (K : PySem.W.Frag) (neg : Bool) : R2 := fun x y H Q => ∃ p xs F al al' ds d m n, y = .ref p ∧ (SqL K H p xs ∨ SqT K H p xs) ∧ Sub F H ∧ Rps F al ds xs ∧ Rp H al' d x ∧ dep d = some m ∧ deps ds = some n ∧ m ≤ 50 ∧ n ≤ 50 ∧ Q (.bl (if neg then !(ds.any fun e => eqD e d) else ds.any fun e => eqD e d)) H
open Classical in
theorem mem_eqW {pins : List (Addr × Obj)} {s : Shared} {A : Around} {F : Hp} {al al' : List Addr} {d : D} {x : V} {v : Value} {m : Nat} (I : Inv X pins σ H s) (hs : Sub F H) (hx : Rp H al' d x) (hd : dep d = some m) (rx : RelV x v) (hm : m ≤ 50) (hu : A.units + 60 < cLine) :
    ∀ {ds : List D} {vs : List V} {us : List Value} {n : Nat}, Vals vs us → Rps F al ds vs → deps ds = some n → ∀ u ∈ us, SeqAt.EqAt A s u v (decide (eqW F al d u))
  | [], vs, us, n, r, h, _ => by
    simp only [Rps] at h; subst h
    cases r; intro u hu; cases hu
  | e :: ds, vs, us, n, r, h, hn => by
    simp only [Rps] at h
    obtain ⟨w, t, rfl, h1, h2⟩ := h
    obtain ⟨a, c, e1, e2, _⟩ := deps_cons hn
    cases r with
    | cons r1 r2 =>
      intro u hu'
      rcases List.mem_cons.mp hu' with rfl | hu'
      · rw [eqW_of r1 h1 e1]
        obtain ⟨p1, p2, p3⟩ := dp_of (K := X.K) hs e w a h1 e1
        obtain ⟨q1, q2, q3⟩ := dp_of (K := X.K) (Sub.refl H) d x m hx hd
        obtain ⟨as, s1⟩ := Dp.reads I _ w _ p1 r1
        obtain ⟨bs, s2⟩ := Dp.reads I _ x v q1 rx
        have := SeqAt.eqAt_reads _ _ A s _ v as bs s1 s2 p2 q2 (by rw [p3, q3]; have := Nat.min_le_right a m; omega)
        rwa [eqv_eqD e d _ _ e1 hd] at this
      · exact mem_eqW I hs hx hd rx hm hu r2 h2 e2 u hu'
open Classical in
theorem op_inX (hu : X.A.units + 64 < cLine) : OpR X (compareOp .In) (rInX X.K false) := by
  rintro pins s σ H x y v u Q I rx ry ⟨p, xs, F, al, al', ds, d, m, n, rfl, hq, hs, hr, hx, hm, hn, lm, ln, q⟩
  cases ry
  rcases hq with hq | hq
  · obtain ⟨its, r, pl, hz⟩ := I.list hq
    refine SeqAt.in_listAt (fun u => decide (eqW F al d u)) pl.isList (fun w hw => mem_eqW I hs hx hm rx lm (by show X.A.units + 1 + 60 < cLine; omega) r hr hn w (by simpa using hw)) ⟨.bl _, H, I, rfl, ?_⟩
    rw [List.any_toArray, any_eqW r hr hn]
    exact q
  · obtain ⟨its, r, pl, hz⟩ := I.tuple hq
    refine SeqAt.in_tupleAt (fun u => decide (eqW F al d u)) pl (fun w hw => mem_eqW I hs hx hm rx lm (by show X.A.units + 1 + 60 < cLine; omega) r hr hn w (by simpa using hw)) ⟨.bl _, H, I, rfl, ?_⟩
    rw [List.any_toArray, any_eqW r hr hn]
    exact q
open Classical in
theorem op_notInX (hu : X.A.units + 64 < cLine) : OpR X (compareOp .NotIn) (rInX X.K true) := by
  rintro pins s σ H x y v u Q I rx ry ⟨p, xs, F, al, al', ds, d, m, n, rfl, hq, hs, hr, hx, hm, hn, lm, ln, q⟩
  cases ry
  rcases hq with hq | hq
  · obtain ⟨its, r, pl, hz⟩ := I.list hq
    refine SeqAt.notIn_listAt (fun u => decide (eqW F al d u)) pl.isList (fun w hw => mem_eqW I hs hx hm rx lm (by show X.A.units + 1 + 60 < cLine; omega) r hr hn w (by simpa using hw)) ⟨.bl _, H, I, rfl, ?_⟩
    rw [List.any_toArray, any_eqW r hr hn]
    exact q
  · obtain ⟨its, r, pl, hz⟩ := I.tuple hq
    refine SeqAt.notIn_tupleAt (fun u => decide (eqW F al d u)) pl (fun w hw => mem_eqW I hs hx hm rx lm (by show X.A.units + 1 + 60 < cLine; omega) r hr hn w (by simpa using hw)) ⟨.bl _, H, I, rfl, ?_⟩
    rw [List.any_toArray, any_eqW r hr hn]
    exact q

/-! ### two dicts compared -/
def EqX (K : PySem.W.Frag) (H : Hp) (v u : V) : Prop := ∃ d e, Dp K H v d ∧ Dp K H u e ∧ d.canLay0 = true ∧ e.canLay0 = true ∧ d.depth ≤ 50 ∧ PyData.eqv d e = true
def rDct (K : PySem.W.Frag) (r : Bool) : R2 := fun x y H Q => ∃ a b ks ls, x = .ref a ∧ y = .ref b ∧ Rd H a (.dK ks) ∧ Rd H b (.dK ls) ∧ ks.length = ls.length ∧ (∀ p ∈ ks, ∃ u, valV ls p.1 = some u ∧ EqX K H p.2 u) ∧ Q (.bl r) H
theorem hits_x {pins : List (Addr × Obj)} {s : Shared} {A : Around} (I : Inv X pins σ H s) (hu : A.units + 60 < cLine) {ls : List (Key × V)} {vb : List (Key × Value)} (rb : KV ls vb) {ks : List (Key × V)} {va : List (Key × Value)} (ra : KV ks va) :
    (∀ p ∈ ks, ∃ u, valV ls p.1 = some u ∧ EqX X.K H p.2 u) → PySem.W.KeqHits A s vb va true := by
  unfold KV at ra
  induction ra with
  | nil => intro _; exact .nil
  | @cons p q ps qs h t ih =>
    intro hp
    obtain ⟨k, v⟩ := q
    obtain ⟨h1, h2⟩ := h
    dsimp only at h1 h2
    obtain ⟨u, eu, d, e, d1, d2, c1, c2, dp, ev⟩ := hp p (by simp)
    have ro : RelO (some u) (valueAt vb p.1) := by rw [← eu]; exact rb.val p.1
    obtain ⟨w, hw, rw'⟩ := ro.some_of
    rw [h1] at hw
    obtain ⟨as, r1⟩ := Dp.reads I d p.2 v d1 h2
    obtain ⟨bs, r2⟩ := Dp.reads I e u w d2 rw'
    have eq := SeqAt.eqAt_reads d e A s v w as bs r1 r2 c1 c2 (by have : min d.depth e.depth ≤ d.depth := Nat.min_le_left _ _
                                                                  omega)
    rw [ev] at eq
    exact .hit (e := true) (b := true) hw eq (ih fun p' hm => hp p' (List.mem_cons_of_mem _ hm))
theorem op_eqDct (hu : X.A.units + 64 < cLine) : OpR X (compareOp .Eq) (rDct X.K true) := by
  rintro pins s σ H x y v u Q I rx ry ⟨a, c, ks, ls, rfl, rfl, ea, ec, hl, hp, q⟩
  cases rx; cases ry
  obtain ⟨_, ya, va, ra, da⟩ := dk_rd I.hok ea
  obtain ⟨_, yc, vc, rc, dc⟩ := dk_rd I.hok ec
  have l2 : va.length = vc.length := by rw [← ra.length, ← rc.length]; exact hl
  exact PySem.W.keq_eq (knd := mixKind X.prog X.w) (r := true) ya yc da dc (by omega) (fun _ => hits_x I (by show X.A.units + 1 + 60 < cLine; omega) rc ra hp) (fin_bl I q (by simp [l2]))
theorem op_neDct (hu : X.A.units + 64 < cLine) : OpR X (compareOp .NotEq) (rDct X.K false) := by
  rintro pins s σ H x y v u Q I rx ry ⟨a, c, ks, ls, rfl, rfl, ea, ec, hl, hp, q⟩
  cases rx; cases ry
  obtain ⟨_, ya, va, ra, da⟩ := dk_rd I.hok ea
  obtain ⟨_, yc, vc, rc, dc⟩ := dk_rd I.hok ec
  have l2 : va.length = vc.length := by rw [← ra.length, ← rc.length]; exact hl
  exact PySem.W.keq_ne (knd := mixKind X.prog X.w) (r := true) ya yc da dc (by omega) (fun _ => hits_x I (by show X.A.units + 1 + 60 < cLine; omega) rc ra hp) (fin_bl I q (by simp [l2]))

/-! ### order of data of one shape -/
mutual
theorem dep_sh : ∀ (a : Sh) (d : D), hasSh a d = true → dep d = some a.dep
  | .i, d, h => by cases d <;> simp [hasSh] at h; rfl
  | .s, d, h => by cases d <;> simp [hasSh] at h; rfl
  | .t l, d, h => by
    cases d with
    | tup ds =>
      simp only [hasSh] at h
      simp only [dep, dep_shs l ds h, Option.map_some, Sh.dep]
    | _ => simp [hasSh] at h
theorem dep_shs : ∀ (l : List Sh) (ds : List D), hasShs l ds = true → deps ds = some (depSs l)
  | [], [], _ => rfl
  | [], _ :: _, h => by simp [hasShs] at h
  | _ :: _, [], h => by simp [hasShs] at h
  | a :: l, d :: ds, h => by
    simp only [hasShs, Bool.and_eq_true] at h
    simp only [deps, dep_sh a d h.1, dep_shs l ds h.2, depSs]
end
mutual
theorem eqD_sym : ∀ (a : Sh) (d e : D), hasSh a d = true → hasSh a e = true → eqD d e = eqD e d
  | .i, d, e, h, h' => by
    cases d <;> simp [hasSh] at h
    cases e <;> simp [hasSh] at h'
    simp only [eqD]; rw [Bool.beq_comm]
  | .s, d, e, h, h' => by
    cases d <;> simp [hasSh] at h
    cases e <;> simp [hasSh] at h'
    simp only [eqD, eq_comm]
  | .t l, d, e, h, h' => by
    cases d <;> simp [hasSh] at h
    cases e <;> simp [hasSh] at h'
    simp only [eqD]; exact eqDs_sym l _ _ h h'
theorem eqDs_sym : ∀ (l : List Sh) (ds es : List D), hasShs l ds = true → hasShs l es = true → eqDs ds es = eqDs es ds
  | [], [], [], _, _ => rfl
  | [], _ :: _, _, h, _ => by simp [hasShs] at h
  | [], [], _ :: _, _, h => by simp [hasShs] at h
  | _ :: _, [], _, h, _ => by simp [hasShs] at h
  | _ :: _, _ :: _, [], _, h => by simp [hasShs] at h
  | a :: l, d :: ds, e :: es, h, h' => by
    simp only [hasShs, Bool.and_eq_true] at h h'
    simp only [eqDs, eqD_sym a d e h.1 h'.1, eqDs_sym l ds es h.2 h'.2]
end
/-- the first pair that differs -/
def lexF (f : D → D → Bool) (z : Bool) : List D → List D → Bool
  | x :: xs, y :: ys => if eqD x y then lexF f z xs ys else f x y
  | _, _ => z
theorem lexAt_lexF {f : D → D → Bool} {z : Bool} {e r : Nat → Bool} : ∀ (xs ys : List D) (i : Nat), (∀ j x y, xs[j]? = some x → ys[j]? = some y → e (i + j) = eqD x y ∧ r (i + j) = f x y) → Ob.lexAt e r z i (min xs.length ys.length) = lexF f z xs ys
  | [], ys, i, _ => by simp [Ob.lexAt, lexF]
  | x :: xs, [], i, _ => by simp [Ob.lexAt, lexF]
  | x :: xs, y :: ys, i, h => by
    have h0 := h 0 x y rfl rfl
    rw [Nat.add_zero] at h0
    rw [show min (x :: xs).length (y :: ys).length = min xs.length ys.length + 1 by simp only [List.length_cons]; omega, Ob.lexAt_succ, h0.1, h0.2]
    have := lexAt_lexF (f := f) (z := z) (e := e) (r := r) xs ys (i + 1) fun j x y hx hy => by
      have := h (j + 1) x y (by simpa using hx) (by simpa using hy)
      rwa [show i + 1 + j = i + (j + 1) by omega]
    rw [this]; rfl
theorem ltDs_lexF : ∀ (l : List Sh) (xs ys : List D), hasShs l xs = true → hasShs l ys = true → ltDs xs ys = lexF ltD false xs ys
  | [], [], [], _, _ => rfl
  | [], _ :: _, _, h, _ => by simp [hasShs] at h
  | [], [], _ :: _, _, h => by simp [hasShs] at h
  | _ :: _, [], _, h, _ => by simp [hasShs] at h
  | _ :: _, _ :: _, [], _, h => by simp [hasShs] at h
  | a :: l, d :: ds, e :: es, h, h' => by
    simp only [hasShs, Bool.and_eq_true] at h h'
    simp only [ltDs, lexF, ltDs_lexF l ds es h.2 h'.2]
theorem lexF_not : ∀ (l : List Sh) (xs ys : List D), hasShs l xs = true → hasShs l ys = true → lexF (fun x y => !ltD y x) true xs ys = !lexF ltD false ys xs
  | [], [], [], _, _ => rfl
  | [], _ :: _, _, h, _ => by simp [hasShs] at h
  | [], [], _ :: _, _, h => by simp [hasShs] at h
  | _ :: _, [], _, h, _ => by simp [hasShs] at h
  | _ :: _, _ :: _, [], _, h => by simp [hasShs] at h
  | a :: l, d :: ds, e :: es, h, h' => by
    simp only [hasShs, Bool.and_eq_true] at h h'
    simp only [lexF, lexF_not l ds es h.2 h'.2, eqD_sym a d e h.1 h'.1]
    cases eqD e d <;> rfl
theorem lexF_swap : ∀ (l : List Sh) (xs ys : List D), hasShs l xs = true → hasShs l ys = true → lexF (fun x y => ltD y x) false xs ys = lexF ltD false ys xs
  | [], [], [], _, _ => rfl
  | [], _ :: _, _, h, _ => by simp [hasShs] at h
  | [], [], _ :: _, _, h => by simp [hasShs] at h
  | _ :: _, [], _, h, _ => by simp [hasShs] at h
  | _ :: _, _ :: _, [], _, h => by simp [hasShs] at h
  | a :: l, d :: ds, e :: es, h, h' => by
    simp only [hasShs, Bool.and_eq_true] at h h'
    simp only [lexF, lexF_swap l ds es h.2 h'.2, eqD_sym a d e h.1 h'.1]
theorem lexF_notr : ∀ (l : List Sh) (xs ys : List D), hasShs l xs = true → hasShs l ys = true → lexF (fun x y => !ltD x y) true xs ys = !lexF ltD false xs ys
  | [], [], [], _, _ => rfl
  | [], _ :: _, _, h, _ => by simp [hasShs] at h
  | [], [], _ :: _, _, h => by simp [hasShs] at h
  | _ :: _, [], _, h, _ => by simp [hasShs] at h
  | _ :: _, _ :: _, [], _, h => by simp [hasShs] at h
  | a :: l, d :: ds, e :: es, h, h' => by
    simp only [hasShs, Bool.and_eq_true] at h h'
    simp only [lexF, lexF_notr l ds es h.2 h'.2]
    cases eqD d e <;> rfl
/-- the four orders, by < alone -/
inductive Od where
  | lt | le | gt | ge
def Od.op : Od → CmpOp
  | .lt => .Lt
  | .le => .LtE
  | .gt => .Gt
  | .ge => .GtE
def Od.f : Od → D → D → Bool
  | .lt => ltD
  | .le => fun x y => !ltD y x
  | .gt => fun x y => ltD y x
  | .ge => fun x y => !ltD x y
def Od.zr : Od → Bool
  | .lt => false
  | .le => true
  | .gt => false
  | .ge => true
theorem Od.tup (o : Od) (l : List Sh) (xs ys : List D) (h : hasShs l xs = true) (h' : hasShs l ys = true) : lexF o.f o.zr xs ys = o.f (.tup xs) (.tup ys) := by
  cases o with
  | lt => simp only [Od.f, Od.zr, ltD]; exact (ltDs_lexF l xs ys h h').symm
  | le => simp only [Od.f, Od.zr, ltD]; rw [ltDs_lexF l ys xs h' h]; exact lexF_not l xs ys h h'
  | gt => simp only [Od.f, Od.zr, ltD]; rw [ltDs_lexF l ys xs h' h]; exact lexF_swap l xs ys h h'
  | ge => simp only [Od.f, Od.zr, ltD]; rw [ltDs_lexF l xs ys h h']; exact lexF_notr l xs ys h h'
theorem Od.size (o : Od) (n : Nat) : (match o with | .lt => decide (n < n) | .le => decide (n ≤ n) | .gt => decide (n < n) | .ge => decide (n ≤ n)) = o.zr := by
  cases o <;> simp [Od.zr]
theorem shs_len : ∀ (l : List Sh) (ds : List D), hasShs l ds = true → ds.length = l.length
  | [], [], _ => rfl
  | [], _ :: _, h => by simp [hasShs] at h
  | _ :: _, [], h => by simp [hasShs] at h
  | a :: l, d :: ds, h => by
    simp only [hasShs, Bool.and_eq_true] at h
    rw [List.length_cons, List.length_cons, shs_len l ds h.2]
theorem shs_get : ∀ (l : List Sh) (ds : List D) (j : Nat) (d : D), hasShs l ds = true → ds[j]? = some d → ∃ a, l[j]? = some a ∧ hasSh a d = true ∧ a.dep ≤ depSs l
  | [], [], _, _, _, e => by simp at e
  | [], _ :: _, _, _, h, _ => by simp [hasShs] at h
  | _ :: _, [], _, _, h, _ => by simp [hasShs] at h
  | a :: l, d :: ds, 0, x, h, e => by
    simp only [hasShs, Bool.and_eq_true] at h
    simp at e; subst e
    exact ⟨a, rfl, h.1, by simp only [depSs]; omega⟩
  | a :: l, d :: ds, j + 1, x, h, e => by
    simp only [hasShs, Bool.and_eq_true] at h
    obtain ⟨b, h1, h2, h3⟩ := shs_get l ds j x h.2 (by simpa using e)
    exact ⟨b, by simpa using h1, h2, by simp only [depSs]; omega⟩
theorem eqAt_sh {pins : List (Addr × Obj)} {s : Shared} {A : Around} {F : Hp} {al : List Addr} (I : Inv X pins σ H s) (hs : Sub F H) {a : Sh} {d e : D} {v u : V} {p q : Value} (h : hasSh a d = true) (h' : hasSh a e = true) (r : Rp F al d v) (r' : Rp F al e u) (rp : RelV v p) (rq : RelV u q)
    (hu : A.units + a.dep < cLine) : SeqAt.EqAt A s p q (eqD d e) := by
  obtain ⟨p1, p2, p3⟩ := dp_of (K := X.K) hs d v a.dep r (dep_sh a d h)
  obtain ⟨q1, q2, q3⟩ := dp_of (K := X.K) hs e u a.dep r' (dep_sh a e h')
  obtain ⟨as, r1⟩ := Dp.reads I _ v p p1 rp
  obtain ⟨bs, r2⟩ := Dp.reads I _ u q q1 rq
  have := SeqAt.eqAt_reads _ _ A s p q as bs r1 r2 p2 q2 (by rw [p3, q3, Nat.min_self]; exact hu)
  rwa [eqv_eqD d e _ _ (dep_sh a d h) (dep_sh a e h')] at this
theorem tup_at {pins : List (Addr × Obj)} {s : Shared} {F : Hp} {al : List Addr} (I : Inv X pins σ H s) (hs : Sub F H) {ds : List D} {v : V} {p : Value} (r : Rp F al (.tup ds) v) (rp : RelV v p) :
    ∃ (a : Addr) (vs : List V) (its : List Value), p = .ref a ∧ s.heap.IsTuple a its.toArray ∧ Vals vs its ∧ Rps F al ds vs ∧ its.length = ds.length := by
  simp only [Rp] at r
  obtain ⟨a, vs, rfl, r1, r2⟩ := r
  cases rp
  obtain ⟨_, its, i1, i2, i3⟩ := Inv.rdt I (hs _ _ r1)
  exact ⟨a, vs, its, rfl, i3, i1, r2, by rw [← i2, Rps.length r2]⟩
theorem at_tup {F : Hp} {al : List Addr} {ds : List D} {vs : List V} {its : List Value} (r : Vals vs its) (q : Rps F al ds vs) {j : Nat} (h : j < its.toArray.size) : ∃ d v, ds[j]? = some d ∧ vs[j]? = some v ∧ RelV v its.toArray[j] ∧ Rp F al d v := by
  have h1 : j < its.length := by simpa using h
  have h2 : j < ds.length := by rw [← Rps.length q, r.length]; exact h1
  obtain ⟨v, e1, e2⟩ := Rps.get q (List.getElem?_eq_getElem h2)
  obtain ⟨u, e3, e4⟩ := Vals.get r e1
  rw [List.getElem?_eq_getElem h1] at e3
  cases e3
  exact ⟨_, v, List.getElem?_eq_getElem h2, e1, by simpa using e4, e2⟩
mutual
theorem rc_sh {pins : List (Addr × Obj)} {s : Shared} {F : Hp} {al : List Addr} (I : Inv X pins σ H s) (hs : Sub F H) (o : Od) : ∀ (a : Sh) (A : Around) (d e : D) (v u : V) (p q : Value), hasSh a d = true → hasSh a e = true → Rp F al d v → Rp F al e u → RelV v p → RelV u q →
    A.units + a.dep + 1 < cLine → Ob.RcOp o.op A s p q (o.f d e)
  | .i, A, d, e, v, u, p, q, h, h', r, r', rp, rq, hu => by
    cases d <;> simp [hasSh] at h
    cases e <;> simp [hasSh] at h'
    simp only [Rp] at r r'
    subst r r'
    obtain ⟨t, rfl⟩ := rp
    obtain ⟨t', rfl⟩ := rq
    cases o with
    | lt => exact Ob.RcOp.lt_int _ _ _ _
    | le =>
      rename_i i j
      have := Ob.RcOp.le_int (A := A) (s := s) i j t t'
      have e : Od.f .le (.int i) (.int j) = decide (i ≤ j) := by
        simp only [Od.f, ltD]
        by_cases h : j < i
        · rw [decide_eq_true h, decide_eq_false (by omega)]; rfl
        · rw [decide_eq_false h, decide_eq_true (by omega)]; rfl
      rw [e]; exact this
    | gt => exact Ob.RcOp.gt_int _ _ _ _
    | ge =>
      rename_i i j
      have := Ob.RcOp.ge_int (A := A) (s := s) i j t t'
      have e : Od.f .ge (.int i) (.int j) = decide (j ≤ i) := by
        simp only [Od.f, ltD]
        by_cases h : i < j
        · rw [decide_eq_true h, decide_eq_false (by omega)]; rfl
        · rw [decide_eq_false h, decide_eq_true (by omega)]; rfl
      rw [e]; exact this
  | .s, A, d, e, v, u, p, q, h, h', r, r', rp, rq, hu => by
    cases d <;> simp [hasSh] at h
    cases e <;> simp [hasSh] at h'
    simp only [Rp] at r r'
    obtain ⟨rfl, _⟩ := r
    obtain ⟨rfl, _⟩ := r'
    obtain ⟨t, rfl⟩ := rp
    obtain ⟨t', rfl⟩ := rq
    cases o with
    | lt => exact fun _ _ _ _ h => PyProof.Rows.lt_str h
    | le => exact fun _ _ _ _ h => PySem.P.le_str h
    | gt => exact fun _ _ _ _ h => PySem.P.gt_str h
    | ge => exact fun _ _ _ _ h => PySem.P.ge_str h
  | .t l, A, d, e, v, u, p, q, h, h', r, r', rp, rq, hu => by
    cases d <;> simp [hasSh] at h
    cases e <;> simp [hasSh] at h'
    rename_i ds es
    obtain ⟨a, vs, its, rfl, ia, va, qa, la⟩ := tup_at I hs r rp
    obtain ⟨c, us, jts, rfl, ic, vc, qc, lc⟩ := tup_at I hs r' rq
    have l1 := shs_len l ds h
    have l2 := shs_len l es h'
    simp only [Sh.dep] at hu
    let ee : Nat → Bool := fun j => match ds[j]?, es[j]? with
      | some x, some y => eqD x y
      | _, _ => false
    let rr : Nat → Bool := fun j => match ds[j]?, es[j]? with
      | some x, some y => o.f x y
      | _, _ => false
    have he : ∀ j (h1 : j < its.toArray.size) (h2 : j < jts.toArray.size), SeqAt.EqAt A.in1 s its.toArray[j] jts.toArray[j] (ee j) := by
      intro j h1 h2
      obtain ⟨x, x', e1, e2, e3, e4⟩ := at_tup va qa h1
      obtain ⟨y, y', f1, f2, f3, f4⟩ := at_tup vc qc h2
      obtain ⟨b, g1, g2, g3⟩ := shs_get l ds j x h e1
      obtain ⟨b', k1, k2, k3⟩ := shs_get l es j y h' f1
      rw [g1] at k1; cases k1
      have : ee j = eqD x y := by show (match ds[j]?, es[j]? with | some x, some y => eqD x y | _, _ => false) = _; rw [e1, f1]
      rw [this]
      exact eqAt_sh I hs g2 k2 e4 f4 e3 f3 (by show A.units + 1 + _ < _; omega)
    have hr : ∀ j (h1 : j < its.toArray.size) (h2 : j < jts.toArray.size), ee j = false → Ob.RcOp o.op A.in1 s its.toArray[j] jts.toArray[j] (rr j) := by
      intro j h1 h2 _
      obtain ⟨x, x', e1, e2, e3, e4⟩ := at_tup va qa h1
      obtain ⟨y, y', f1, f2, f3, f4⟩ := at_tup vc qc h2
      have : rr j = o.f x y := by show (match ds[j]?, es[j]? with | some x, some y => o.f x y | _, _ => false) = _; rw [e1, f1]
      rw [this]
      exact rc_shs I hs o l ds es j x y A x' y' _ _ h h' e1 f1 e4 f4 e3 f3 (by omega)
    have fin : ∀ z : Bool, z = o.zr → Ob.lexAt ee rr z 0 (min its.toArray.size jts.toArray.size) = o.f (.tup ds) (.tup es) := by
      intro z hz
      rw [hz, List.size_toArray, List.size_toArray, la, lc]
      rw [lexAt_lexF (f := o.f) ds es 0 fun j x y hx hy => ⟨by show (match ds[0 + j]?, es[0 + j]? with | some x, some y => eqD x y | _, _ => false) = _; rw [Nat.zero_add, hx, hy], by show (match ds[0 + j]?, es[0 + j]? with | some x, some y => o.f x y | _, _ => false) = _; rw [Nat.zero_add, hx, hy]⟩]
      exact o.tup l ds es h h'
    have sz : its.toArray.size = jts.toArray.size := by rw [List.size_toArray, List.size_toArray, la, lc, l1, l2]
    cases o with
    | lt =>
      have := Ob.RcOp.tuples_lt ia ic (by omega) he hr
      rwa [fin _ (by rw [sz]; simp [Od.zr])] at this
    | le =>
      have := Ob.RcOp.tuples_le ia ic (by omega) he hr
      rwa [fin _ (by rw [sz]; simp [Od.zr])] at this
    | gt =>
      have := Ob.RcOp.tuples_gt ia ic (by omega) he hr
      rwa [fin _ (by rw [sz]; simp [Od.zr])] at this
    | ge =>
      have := Ob.RcOp.tuples_ge ia ic (by omega) he hr
      rwa [fin _ (by rw [sz]; simp [Od.zr])] at this
theorem rc_shs {pins : List (Addr × Obj)} {s : Shared} {F : Hp} {al : List Addr} (I : Inv X pins σ H s) (hs : Sub F H) (o : Od) : ∀ (l : List Sh) (ds es : List D) (j : Nat) (x y : D) (A : Around) (v u : V) (p q : Value), hasShs l ds = true → hasShs l es = true → ds[j]? = some x → es[j]? = some y → Rp F al x v → Rp F al y u → RelV v p → RelV u q →
    A.units + depSs l + 2 < cLine → Ob.RcOp o.op A.in1 s p q (o.f x y)
  | [], [], _, _, _, _, _, _, _, _, _, _, _, e, _, _, _, _, _, _ => by simp at e
  | [], _ :: _, _, _, _, _, _, _, _, _, _, h, _, _, _, _, _, _, _, _ => by simp [hasShs] at h
  | _ :: _, [], _, _, _, _, _, _, _, _, _, h, _, _, _, _, _, _, _, _ => by simp [hasShs] at h
  | _ :: _, _ :: _, [], _, _, _, _, _, _, _, _, _, h, _, _, _, _, _, _, _ => by simp [hasShs] at h
  | a :: l, d :: ds, e :: es, 0, x, y, A, v, u, p, q, h, h', ex, ey, r, r', rp, rq, hu => by
    simp only [hasShs, Bool.and_eq_true] at h h'
    simp at ex ey
    subst ex ey
    exact rc_sh I hs o a A.in1 d e v u p q h.1 h'.1 r r' rp rq (by simp only [depSs] at hu; show A.units + 1 + _ + 1 < _; omega)
  | a :: l, d :: ds, e :: es, j + 1, x, y, A, v, u, p, q, h, h', ex, ey, r, r', rp, rq, hu => by
    simp only [hasShs, Bool.and_eq_true] at h h'
    exact rc_shs I hs o l ds es j x y A v u p q h.2 h'.2 (by simpa using ex) (by simpa using ey) r r' rp rq (by simp only [depSs] at hu; omega)
end
def rOrd (o : Od) : R2 := fun x y H Q => ∃ F al d e a, Sub F H ∧ a.dep ≤ 50 ∧ hasSh a d = true ∧ hasSh a e = true ∧ Rp F al d x ∧ Rp F al e y ∧ Q (.bl (o.f d e)) H
theorem op_ord (hu : X.A.units + 64 < cLine) (o : Od) : OpR X (compareOp o.op) (rOrd o) := by
  rintro pins s σ H x y v u Q I rx ry ⟨F, al, d, e, a, hs, hd, h1, h2, r1, r2, q⟩
  have := rc_sh I hs o a X.A d e x y v u h1 h2 r1 r2 rx ry (by omega)
  cases o <;> exact this X.prog X.w X.xe (EP X pins σ Q) ⟨.bl _, H, I, rfl, q⟩
def rCmp (K : PySem.W.Frag) : Cop → R2
  | .eq => orR (rEqD K) (rDct K true)
  | .ne => orR (rNeD K) (rDct K false)
  | .lt => orR (rI0 fun i j => .bl (decide (i < j))) (rOrd .lt)
  | .le => orR (rI0 fun i j => .bl (decide (i ≤ j))) (rOrd .le)
  | .gt => orR (rI0 fun i j => .bl (decide (j < i))) (rOrd .gt)
  | .ge => orR (rI0 fun i j => .bl (decide (j ≤ i))) (rOrd .ge)
  | .isin => orR (rInS false) (orR (orR (rIn K false) (rInX K false)) (rInD false))
  | .notin => orR (rInS true) (orR (orR (rIn K true) (rInX K true)) (rInD true))
  | .is => orR (fun x y H Q => y = .non ∧ Q (.bl (decide (x = .non))) H) rIsB
  | .isnot => orR (fun x y H Q => y = .non ∧ Q (.bl (!decide (x = .non))) H) rNotB
def copO : Cop → CmpOp
  | .eq => .Eq
  | .ne => .NotEq
  | .lt => .Lt
  | .le => .LtE
  | .gt => .Gt
  | .ge => .GtE
  | .isin => .In
  | .notin => .NotIn
  | .is => .Is
  | .isnot => .IsNot
theorem op_cmp (hu : X.A.units + 64 < cLine) : ∀ o : Cop, OpR X (compareOp (copO o)) (rCmp X.K o)
  | .eq => (op_eqD hu).or (op_eqDct hu)
  | .ne => (op_neD hu).or (op_neDct hu)
  | .lt => op_lt.or (op_ord hu .lt)
  | .le => op_le.or (op_ord hu .le)
  | .gt => op_gt.or (op_ord hu .gt)
  | .ge => op_ge.or (op_ord hu .ge)
  | .isin => op_inS.or ((op_in_seq.or (op_inX hu)).or (op_inD (by omega)))
  | .notin => op_notInS.or ((op_notIn_seq.or (op_notInX hu)).or (op_notInD (by omega)))
  | .is => op_isN.or op_isBl
  | .isnot => op_notN.or op_notBl

theorem flat_of {F : Hp} {al : List Addr} {d : D} {v : V} (h : Rp F al d v) (f : d.flat = true) : flatV v = true := by
  cases d <;> simp only [D.flat, Bool.false_eq_true] at f <;> simp only [Rp] at h
  · subst h; rfl
  · subst h; rfl
  · subst h; rfl
  · rw [h.1]; rfl
theorem flats_of {F : Hp} {al : List Addr} : ∀ {ds : List D} {vs : List V}, Rps F al ds vs → ds.all D.flat = true → vs.all flatV = true
  | [], vs, h, f => by simp only [Rps] at h; subst h; rfl
  | d :: ds, vs, h, f => by
    simp only [Rps] at h
    obtain ⟨v, r, rfl, h1, h2⟩ := h
    rw [List.all_cons, Bool.and_eq_true] at f ⊢
    exact ⟨flat_of h1 f.1, flats_of h2 f.2⟩
theorem eqV_of {F G : Hp} {al al' : List Addr} {d e : D} {v u : V} (h : Rp F al d v) (h' : Rp G al' e u) (f : d.flat = true) (f' : e.flat = true) : eqV v u = eqD d e := by
  cases d <;> simp only [D.flat, Bool.false_eq_true] at f <;> simp only [Rp] at h <;> cases e <;> simp only [D.flat, Bool.false_eq_true] at f' <;> simp only [Rp] at h' <;>
    first | (subst h; subst h'; rfl) | (obtain ⟨h, _⟩ := h; subst h; subst h'; rfl) | (obtain ⟨h', _⟩ := h'; subst h; subst h'; rfl) | skip
  rw [h.1, h'.1]
  simp only [eqV, eqD]
  rw [Bool.beq_eq_decide_eq]
theorem inV_of {F G : Hp} {al al' : List Addr} {e : D} {u : V} (h' : Rp G al' e u) (f' : e.flat = true) : ∀ {ds : List D} {vs : List V}, Rps F al ds vs → ds.all D.flat = true → inV u vs = ds.any fun d => eqD d e
  | [], vs, h, f => by simp only [Rps] at h; subst h; rfl
  | d :: ds, vs, h, f => by
    simp only [Rps] at h
    obtain ⟨v, r, rfl, h1, h2⟩ := h
    rw [List.all_cons, Bool.and_eq_true] at f
    have ih := inV_of h' f' h2 f.2
    unfold inV at ih ⊢
    rw [List.any_cons, List.any_cons, eqV_of h1 h' f.1 f', ih]
theorem keyOk_kD {x : D} (h : keyOk x = true) : ∃ k : Key, x = kD k := by
  cases x <;> simp only [keyOk, Bool.false_eq_true] at h
  · exact ⟨.inl _, rfl⟩
  · exact ⟨.inr _, rfl⟩
theorem kD_rp {F : Hp} {al : List Addr} {k : Key} {v : V} (h : Rp F al (kD k) v) : v = kV k := by
  cases k <;> simp only [kD, Rp] at h
  · exact h
  · exact h.1
theorem kD_eq (j k : Key) : eqD (kD j) (kD k) = decide (j = k) := by
  cases j <;> cases k <;> simp only [kD, eqD]
  · rw [key_ll]
  · simp
  · simp
  · rw [key_rr]
/-- a key that is an int or a text is looked for -/
theorem valV_of {F : Hp} {al : List Addr} (k : Key) : ∀ {kvs : List (D × D)} {l : List (Key × V)}, Rkv F al kvs l →
    match kvs.find? fun p => eqD p.1 (kD k) with
    | some p => ∃ v, valV l k = some v ∧ Rp F al p.2 v
    | none => valV l k = none
  | [], l, h => by simp only [Rkv] at h; subst h; rfl
  | (x, d) :: kvs, l, h => by
    simp only [Rkv] at h
    obtain ⟨kk, v, r, rfl, rfl, h1, h2⟩ := h
    have ih := valV_of k h2
    rw [List.find?_cons]
    by_cases e : kk = k
    · subst e
      rw [kD_eq, decide_eq_true rfl]
      exact ⟨v, by simp [valV], h1.2⟩
    · rw [kD_eq, decide_eq_false e]
      have e2 : valV ((kk, v) :: r) k = valV r k := by simp [valV, e]
      rw [e2]
      exact ih
theorem hasKey_of {F : Hp} {al : List Addr} {k : Key} {kvs : List (D × D)} {l : List (Key × V)} (h : Rkv F al kvs l) : (valV l k).isSome = hasKey (kD k) kvs := by
  have := valV_of k h
  unfold hasKey
  cases e : kvs.find? fun p => eqD p.1 (kD k) with
  | some p =>
    rw [e] at this
    obtain ⟨v, h1, _⟩ := this
    rw [h1]
    have hp := List.find?_some e
    exact (List.any_eq_true.mpr ⟨p, List.mem_of_find?_eq_some e, hp⟩).symm
  | none =>
    rw [e] at this
    rw [this]
    have := List.find?_eq_none.mp e
    refine (List.any_eq_false.mpr fun p hp => ?_).symm
    simpa using this p hp
end
end Vi

namespace Vi
open PySem L2

section
variable {w : Wd} {xr : Nat → Option Addr → V → Prop} {X : Cx} {W : WX} {b : Bs} {g : Gh} {z : Z} {σ : St} {H : Hp} {Q : VK}

theorem ofB_some {o : Option Bool} (k : PostE w xr W b g σ H Q (ofB z o)) (S : Sim w xr b g z σ H) : ∃ c, o = some c ∧ Q (.bl c) H := by
  cases o with
  | none => exact k.elim
  | some c => exact ⟨c, rfl, PostE.now S (rp_bl _ _) k⟩
theorem Rkt_keys {F : Hp} {al : List Addr} {kvs : List (D × D)} {l : List (List Key × V)} (h : Rkt F al kvs l) (f : (kvs.all fun p => keyOk p.1) = true) : False := by
  cases kvs with
  | nil => simp [Rkt] at h
  | cons p r =>
    obtain ⟨k, d⟩ := p
    simp only [Rkt] at h
    obtain ⟨kk, v, q, _, rfl, _⟩ := h
    rw [List.all_cons, Bool.and_eq_true] at f
    simp [kDs, keyOk] at f
theorem DGet.kr {H : Hp} {a : Addr} {kvs : List (Key × V)} {k : Key} (e : Rd H a (.dK kvs)) : DGet H a (kV k) (valV kvs k) := .inl ⟨kvs, k, e, rfl, rfl⟩
/-- a dict, wherever it stands -/
theorem dctO_of (S : Sim w xr b g z σ H) {d : D} {v : V} {kvs : List (D × D)} (h : Rb w g H d v) (e : dctO z.os d = some kvs) :
    ∃ a, v = .ref a ∧ ((∃ l, Rd H a (.dK l) ∧ Rkv g.F g.al kvs l) ∨ (∃ l, H a = some (.dT l) ∧ Rkt g.F g.al kvs l)) := by
  cases d with
  | dct ks =>
    simp only [dctO] at e; cases e
    obtain ⟨a, e1, q⟩ := h
    refine ⟨a, e1, ?_⟩
    rcases q with ⟨l, q, r⟩ | ⟨l, q, r⟩
    · exact .inl ⟨l, .inl (unbox_sub _ _ q), r⟩
    · exact .inr ⟨l, unbox_sub _ _ q, r⟩
  | box i =>
    simp only [dctO] at e
    have h' : Rp g.F g.al (.box i) v := h
    simp only [Rp] at h'
    obtain ⟨a, ha, rfl⟩ := h'
    split at e
    · rename_i ks hi
      cases e
      obtain ⟨a', ha', q⟩ := S.boxAt hi
      rw [ha] at ha'; cases ha'
      refine ⟨a, rfl, ?_⟩
      rcases q with ⟨l, q, r⟩ | ⟨l, q, r⟩
      · exact .inl ⟨l, .inl q, r⟩
      · exact .inr ⟨l, q, r⟩
    · rename_i ks hi
      cases e
      obtain ⟨a', ha', q, l, q2, r⟩ := S.boxAt hi
      rw [ha] at ha'; cases ha'
      exact ⟨a, rfl, .inl ⟨l, .inr ⟨(b.lk a).1, by rw [q, q2]⟩, r⟩⟩
    · cases e
  | _ => simp [dctO] at e
/-- a dict by int and text keys, wherever it stands -/
theorem dct_in {x : D} {vx : V} {a : Addr} {kvs : List (D × D)} (rx : Rp g.F g.al x vx) (h : (∃ l, Rd H a (.dK l) ∧ Rkv g.F g.al kvs l) ∨ (∃ l, H a = some (.dT l) ∧ Rkt g.F g.al kvs l))
    (hk : (keyOk x && kvs.all fun p => keyOk p.1) = true) : ∃ o, DGet H a vx o ∧ o.isSome = hasKey x kvs ∧ match getD kvs x with | some d => ∃ v, o = some v ∧ Rp g.F g.al d v | none => o = none := by
  rw [Bool.and_eq_true] at hk
  obtain ⟨k, rfl⟩ := keyOk_kD hk.1
  rcases h with ⟨l, q, r⟩ | ⟨l, q, r⟩
  · have e := kD_rp rx
    subst e
    refine ⟨_, DGet.kr q, hasKey_of r, ?_⟩
    unfold getD
    rw [hk.1, hk.2]
    have := valV_of k r
    simp only [Bool.and_self, if_true]
    cases e : kvs.find? fun p => eqD p.1 (kD k) with
    | some p =>
      rw [e] at this
      obtain ⟨v, h1, h2⟩ := this
      exact ⟨v, h1, h2⟩
    | none => rw [e] at this; exact this
  · exact (Rkt_keys r hk.2).elim
theorem in_hr {neg : Bool} {x y : D} {vx vy : V} {c : Bool} (S : Sim w xr b g z σ H) (rx : Rb w g H x vx) (ry : Rb w g H y vy) (h : inD z.os x y = some c) (q : Q (.bl (if neg then !c else c)) H) :
    orR (rInS neg) (orR (orR (rIn X.K neg) (rInX X.K neg)) (rInD neg)) vx vy H Q := by
  have seq : ∀ (ds : List D) (a : Addr) (vs : List V), (SqL X.K H a vs ∨ SqT X.K H a vs) → Rps g.F g.al ds vs → (if (x.flat && ds.all D.flat) = true then some (ds.any fun d => eqD d x) else inX x ds) = some c → orR (rIn X.K neg) (rInX X.K neg) vx (.ref a) H Q := by
    intro ds a vs hs hr hc
    split at hc
    · rename_i hf
      rw [Bool.and_eq_true] at hf
      cases hc
      refine .inl ⟨a, vs, rfl, hs, flat_of (rx.rpH S) hf.1, flats_of hr hf.2, ?_⟩
      rw [inV_of (rx.rpH S) hf.1 hr hf.2]
      cases neg <;> exact q
    · unfold inX at hc
      split at hc
      · rename_i m n e1 e2
        split at hc
        · rename_i hle
          cases hc
          refine .inr ⟨a, vs, g.F, g.al, g.al, ds, x, m, n, rfl, hs, S.sub, hr, rx.rpH S, e1, e2, hle.1, hle.2, ?_⟩
          cases neg <;> exact q
        · cases hc
      · cases hc
  have dct : ∀ (kvs : List (D × D)) (a : Addr), ((∃ l, Rd H a (.dK l) ∧ Rkv g.F g.al kvs l) ∨ (∃ l, H a = some (.dT l) ∧ Rkt g.F g.al kvs l)) → (if (keyOk x && kvs.all fun p => keyOk p.1) = true then some (hasKey x kvs) else none) = some c → rInD neg vx (.ref a) H Q := by
    intro kvs a hh hc
    split at hc
    · rename_i hk
      cases hc
      have rx' : Rp g.F g.al x vx := by
        rw [Bool.and_eq_true] at hk
        obtain ⟨k, rfl⟩ := keyOk_kD hk.1
        cases k <;> exact rx
      obtain ⟨o, h1, h2, _⟩ := dct_in rx' hh hk
      refine ⟨a, o, rfl, h1, ?_⟩
      rw [h2]
      cases neg <;> exact q
    · cases hc
  cases y with
  | str t =>
    obtain ⟨rfl, ht⟩ := ry.str
    simp only [inD] at h
    split at h
    · rename_i s
      obtain ⟨rfl, hs⟩ := rx.str
      cases h
      refine .inl ⟨s, t, rfl, rfl, ?_⟩
      cases neg <;> exact q
    · cases h
  | tup ds =>
    simp only [inD] at h
    obtain ⟨a, vs, rfl, r1, r2⟩ := ry.tup S
    exact .inr (.inl (seq ds a vs (.inr (SqT.of r1)) r2 h))
  | lst ds =>
    simp only [inD] at h
    obtain ⟨a, vs, rfl, r1, r2⟩ := ry
    exact .inr (.inl (seq ds a vs (.inl (.inl (unbox_sub.rd r1))) r2 h))
  | dct kvs =>
    simp only [inD] at h
    obtain ⟨a, rfl, r1⟩ := dctO_of S (d := .dct kvs) ry rfl
    exact .inr (.inr (dct kvs a r1 h))
  | box i =>
    simp only [inD] at h
    have ry0 := ry
    have ry' : Rp g.F g.al (.box i) vy := ry
    simp only [Rp] at ry'
    obtain ⟨a, ha, rfl⟩ := ry'
    split at h
    · rename_i ds hi
      obtain ⟨a', ha', q'⟩ := S.boxAt hi
      rw [ha] at ha'; cases ha'
      obtain ⟨vs, q1, q2⟩ := q'
      exact .inr (.inl (seq ds a vs (.inl (SqL.of q1)) q2 h))
    · rename_i kvs hi
      obtain ⟨a', e', q'⟩ := dctO_of S (kvs := kvs) ry0 (by simp [dctO, hi])
      cases e'
      exact .inr (.inr (dct kvs a q' h))
    · rename_i kvs hi
      obtain ⟨a', e', q'⟩ := dctO_of S (kvs := kvs) ry0 (by simp [dctO, hi])
      cases e'
      exact .inr (.inr (dct kvs a q' h))
    · cases h
  | _ => simp [inD] at h
/-- two dicts that are equal -/
theorem eqDct_of (S : Sim w xr b g z σ H) {x y : D} {vx vy : V} (rx : Rb w g H x vx) (ry : Rb w g H y vy) (h : eqDct z.os x y = true) {r : Bool} (q : Q (.bl r) H) : rDct X.K r vx vy H Q := by
  unfold eqDct at h
  split at h
  · rename_i ks ls h1 h2
    simp only [Bool.and_eq_true, decide_eq_true_eq] at h
    obtain ⟨⟨⟨k1, k2⟩, hl⟩, hv⟩ := h
    obtain ⟨a, rfl, qa⟩ := dctO_of S rx h1
    obtain ⟨c, rfl, qc⟩ := dctO_of S ry h2
    rcases qa with ⟨l, ra, sa⟩ | ⟨l, ra, sa⟩
    · rcases qc with ⟨m, rc, sc⟩ | ⟨m, rc, sc⟩
      · have len : ∀ {kvs : List (D × D)} {l : List (Key × V)}, Rkv g.F g.al kvs l → l.length = kvs.length := by
          intro kvs
          induction kvs with
          | nil => intro l h; simp only [Rkv] at h; subst h; rfl
          | cons p r ih =>
            intro l h
            obtain ⟨k, d⟩ := p
            simp only [Rkv] at h
            obtain ⟨kk, v, u, rfl, _, _, h2⟩ := h
            rw [List.length_cons, List.length_cons, ih h2]
        refine ⟨a, c, l, m, rfl, rfl, ra, rc, by rw [len sa, len sc, hl], ?_, q⟩
        have go : ∀ {kvs : List (D × D)} {l : List (Key × V)}, Rkv g.F g.al kvs l → (kvs.all fun p => match lookD ls p.1 with
            | some u => eqD p.2 u && (match dep p.2, dep u with
              | some a, some b => decide (a ≤ 50) && decide (b ≤ 50)
              | _, _ => false)
            | none => false) = true → ∀ p ∈ l, ∃ u, valV m p.1 = some u ∧ EqX X.K H p.2 u := by
          intro kvs
          induction kvs with
          | nil => intro l h _ p hp; simp only [Rkv] at h; subst h; cases hp
          | cons p0 r ih =>
            intro l h ha p hp
            obtain ⟨k, d⟩ := p0
            simp only [Rkv] at h
            obtain ⟨kk, v, u, rfl, rfl, h1, h2⟩ := h
            rw [List.all_cons, Bool.and_eq_true] at ha
            rcases List.mem_cons.mp hp with rfl | hp
            · have hv := valV_of kk sc
              have ha1 := ha.1
              unfold lookD at ha1
              cases e : ls.find? fun p => eqD p.1 (kD kk) with
              | none => rw [e] at ha1; simp at ha1
              | some p1 =>
                rw [e] at ha1 hv
                obtain ⟨w1, e1, e2⟩ := hv
                simp only [Option.map_some, Bool.and_eq_true] at ha1
                obtain ⟨e3, e4⟩ := ha1
                refine ⟨w1, e1, ?_⟩
                split at e4
                · rename_i da db d1 d2
                  simp only [Bool.and_eq_true, decide_eq_true_eq] at e4
                  obtain ⟨p1, p2, p3⟩ := dp_of (K := X.K) S.sub _ _ _ h1.2 d1
                  obtain ⟨p4, p5, p6⟩ := dp_of (K := X.K) S.sub _ _ _ e2 d2
                  exact ⟨_, _, p1, p4, p2, p5, by rw [p3]; exact e4.1, by rw [eqv_eqD _ _ _ _ d1 d2]; exact e3⟩
                · cases e4
            · exact ih h2 ha.2 p hp
        exact go sa hv
      · exact (Rkt_keys sc k2).elim
    · exact (Rkt_keys sa k1).elim
  · cases h
theorem ord_of (S : Sim w xr b g z σ H) {x y : D} {vx vy : V} (rx : Rb w g H x vx) (ry : Rb w g H y vy) (h : OrdOk x y) (o : Od) (q : Q (.bl (o.f x y)) H) : rOrd o vx vy H Q := by
  obtain ⟨a, hd, h1, h2⟩ := h
  exact ⟨H, g.al, x, y, a, .refl _, hd, h1, h2, rx.rpH S, ry.rpH S, q⟩
theorem eqX_some {os : Os} {x y : D} {c : Bool} (h : eqX os x y = some c) : ∃ m n, dep (ex3 os x) = some m ∧ dep (ex3 os y) = some n ∧ m ≤ 60 ∧ n ≤ 60 ∧ c = eqD (ex3 os x) (ex3 os y) := by
  unfold eqX at h
  split at h
  · rename_i m n h1 h2
    split at h
    · rename_i hle
      cases h
      exact ⟨m, n, h1, h2, hle.1, hle.2, rfl⟩
    · cases h
  · cases h
theorem cmp_hr (o : Cop) : ∀ b g z σ H Q x y vx vy, Sim w xr b g z σ H → Rb w g H x vx → Rb w g H y vy → PostE w xr W b g σ H Q (ofB z (cmpD o z.os x y)) → rCmp X.K o vx vy H Q := by
  intro b g z σ H Q x y vx vy S rx ry k
  obtain ⟨c, hc, q⟩ := ofB_some k S
  cases o with
  | eq =>
    simp only [cmpD] at hc
    split at hc
    · rename_i m n h1 h2
      split at hc
      · rename_i hle
        cases hc
        obtain ⟨p1, p2, p3⟩ := dp_of (K := X.K) (Sub.refl H) _ _ _ (snap_rp S rx) h1
        obtain ⟨p4, p5, p6⟩ := dp_of (K := X.K) (Sub.refl H) _ _ _ (snap_rp S ry) h2
        refine .inl ⟨_, _, p1, p4, shaped_of ⟨p2, p3⟩ hle.1, shaped_of ⟨p5, p6⟩ hle.2, ?_⟩
        rw [eqv_eqD _ _ _ _ h1 h2]
        exact q
      · cases hc
    · split at hc
      · rename_i he
        cases hc
        exact .inr (eqDct_of S rx ry he q)
      · obtain ⟨m, n, h1, h2, h3, h4, h5⟩ := eqX_some hc
        cases h5
        obtain ⟨p1, p2, p3⟩ := dp_of (K := X.K) (Sub.refl H) _ _ _ (ex3_rp S rx) h1
        obtain ⟨p4, p5, p6⟩ := dp_of (K := X.K) (Sub.refl H) _ _ _ (ex3_rp S ry) h2
        refine .inl ⟨_, _, p1, p4, shaped_of ⟨p2, p3⟩ h3, shaped_of ⟨p5, p6⟩ h4, ?_⟩
        rw [eqv_eqD _ _ _ _ h1 h2]
        exact q
  | ne =>
    simp only [cmpD] at hc
    split at hc
    · rename_i m n h1 h2
      split at hc
      · rename_i hle
        cases hc
        obtain ⟨p1, p2, p3⟩ := dp_of (K := X.K) (Sub.refl H) _ _ _ (snap_rp S rx) h1
        obtain ⟨p4, p5, p6⟩ := dp_of (K := X.K) (Sub.refl H) _ _ _ (snap_rp S ry) h2
        refine .inl ⟨_, _, p1, p4, shaped_of ⟨p2, p3⟩ hle.1, shaped_of ⟨p5, p6⟩ hle.2, ?_⟩
        rw [eqv_eqD _ _ _ _ h1 h2]
        exact q
      · cases hc
    · split at hc
      · rename_i he
        cases hc
        exact .inr (eqDct_of S rx ry he q)
      · obtain ⟨c0, hc0, hc1⟩ := Option.map_eq_some_iff.mp hc
        obtain ⟨m, n, h1, h2, h3, h4, h5⟩ := eqX_some hc0
        cases h5
        cases hc1
        obtain ⟨p1, p2, p3⟩ := dp_of (K := X.K) (Sub.refl H) _ _ _ (ex3_rp S rx) h1
        obtain ⟨p4, p5, p6⟩ := dp_of (K := X.K) (Sub.refl H) _ _ _ (ex3_rp S ry) h2
        refine .inl ⟨_, _, p1, p4, shaped_of ⟨p2, p3⟩ h3, shaped_of ⟨p5, p6⟩ h4, ?_⟩
        rw [eqv_eqD _ _ _ _ h1 h2]
        exact q
  | lt =>
    simp only [cmpD] at hc
    split at hc
    · cases hc
      rw [rx.int, ry.int]
      exact .inl ⟨_, _, rfl, rfl, q⟩
    · split at hc
      · rename_i ho
        cases hc
        exact .inr (ord_of S rx ry ho .lt q)
      · cases hc
  | le =>
    simp only [cmpD] at hc
    split at hc
    · cases hc
      rw [rx.int, ry.int]
      exact .inl ⟨_, _, rfl, rfl, q⟩
    · split at hc
      · rename_i ho
        cases hc
        exact .inr (ord_of S rx ry ho .le q)
      · cases hc
  | gt =>
    simp only [cmpD] at hc
    split at hc
    · cases hc
      rw [rx.int, ry.int]
      exact .inl ⟨_, _, rfl, rfl, q⟩
    · split at hc
      · rename_i ho
        cases hc
        exact .inr (ord_of S rx ry ho .gt q)
      · cases hc
  | ge =>
    simp only [cmpD] at hc
    split at hc
    · cases hc
      rw [rx.int, ry.int]
      exact .inl ⟨_, _, rfl, rfl, q⟩
    · split at hc
      · rename_i ho
        cases hc
        exact .inr (ord_of S rx ry ho .ge q)
      · cases hc
  | isin => exact in_hr (neg := false) S rx ry hc q
  | notin =>
    simp only [cmpD, Option.map_eq_some_iff] at hc
    obtain ⟨c', h1, rfl⟩ := hc
    exact in_hr (neg := true) S rx ry h1 q
  | is =>
    simp only [cmpD] at hc
    split at hc
    · cases hc
      rw [rx.non, ry.non]
      exact .inl ⟨rfl, q⟩
    · rename_i x' hne
      rw [ry.non]
      refine .inl ⟨rfl, ?_⟩
      cases hc
      have : vx ≠ .non := by
        intro e; subst e
        have := rx.rpH S
        cases x <;> simp [Rp] at this
        exact hne rfl
      rw [decide_eq_false this]
      exact q
    · cases hc
      rw [rx.bl, ry.bl]
      rename_i a c
      refine .inr ⟨a, c, rfl, rfl, ?_⟩
      rw [← Bool.beq_eq_decide_eq]; exact q
    · cases hc
  | isnot =>
    simp only [cmpD] at hc
    split at hc
    · cases hc
      rw [rx.non, ry.non]
      exact .inl ⟨rfl, q⟩
    · rename_i x' hne
      rw [ry.non]
      refine .inl ⟨rfl, ?_⟩
      cases hc
      have : vx ≠ .non := by
        intro e; subst e
        have := rx.rpH S
        cases x <;> simp [Rp] at this
        exact hne rfl
      rw [decide_eq_false this]
      exact q
    · cases hc
      rw [rx.bl, ry.bl]
      rename_i a c
      refine .inr ⟨a, c, rfl, rfl, ?_⟩
      rw [← Bool.beq_eq_decide_eq]; exact q
    · cases hc
end
end Vi

namespace Vi
open PySem L2

def PostT (w : Wd) (xr : Nat → Option Addr → V → Prop) (W : WX) (b : Bs) (g : Gh) (σ : St) (H : Hp) (Q : Bool → Hp → Prop) : R Z (D × Bool) → Prop
  | .ok a z' => match a.1 with
    | .bl c => ∀ g' H', Stp g H g' H' → Sim w xr b g' z' σ H' → Q c H'
    | _ => False
  | .exc c x z' => ∀ g' cls dd H', Stp g H g' H' → Sim w xr b g' z' σ H' → XR w.cad g' c x cls dd H' → W cls dd σ H'
  | .stuck => False
/-- e as a test -/
def SndT (w : Wd) (xr : Nat → Option Addr → V → Prop) (X : Cx) (W : WX) (e : Expr) (f : Z → R Z (D × Bool)) : Prop :=
  ∃ t, PT X e t ∧ ∀ b g z σ H Q, Sim w xr b g z σ H → PostT w xr W b g σ H Q (f z) → t σ H Q

section
variable {w : Wd} {xr : Nat → Option Addr → V → Prop} {X : Cx} {W : WX} {b : Bs} {g g2 : Gh} {z z2 : Z} {σ : St} {H H2 : Hp}

theorem PostT.step {Q : Bool → Hp → Prop} {r : R Z (D × Bool)} (st : Stp g H g2 H2) (k : PostT w xr W b g σ H Q r) : PostT w xr W b g2 σ H2 Q r := by
  cases r with
  | ok a z' =>
    obtain ⟨d, fr⟩ := a
    cases d with
    | bl c => exact fun g' H' s' S' => k g' H' (st.trans s') S'
    | _ => exact k.elim
  | exc c x z' => exact fun g' cls dd H' s' S' t => k g' cls dd H' (st.trans s') S' t
  | stuck => exact k.elim
/-- a test by its value -/
theorem PostT.toE {Q : Bool → Hp → Prop} {r : R Z (D × Bool)} (k : PostT w xr W b g σ H Q r) : PostE w xr W b g σ H (fun x H' => ∃ c, x = .bl c ∧ Q c H') r := by
  cases r with
  | ok a z' =>
    obtain ⟨d, fr⟩ := a
    cases d with
    | bl c =>
      intro g' v H' st S' tm
      have : v = .bl c := by
        unfold Tmp at tm
        rw [if_neg (by simp [D.cell])] at tm
        simpa [Rp] using tm
      exact ⟨c, this, k g' H' st S'⟩
    | _ => exact k.elim
  | exc c x z' => exact k
  | stuck => exact k
theorem SndE.T {e : Expr} {f : Z → R Z (D × Bool)} (h : SndE w xr X W e f) (he : ∀ whole, isTrue e X.env whole = (do let v ← whole; standAt e.pos; holding [v] (truthy v))) : SndT w xr X W e f := by
  obtain ⟨t, p, q⟩ := h
  exact ⟨_, pt_val p he, fun b g z σ H Q S k => q b g z σ H _ S k.toE⟩
theorem SndB.T {e : Expr} {f : Z → R Z (D × Bool)} (h : SndB w xr X W e fun z => fst1 (f z)) (he : ∀ whole, isTrue e X.env whole = (do let v ← whole; standAt e.pos; holding [v] (truthy v))) : SndT w xr X W e f := by
  obtain ⟨t, p, q⟩ := h
  refine ⟨_, pt_val p he, fun b g z σ H Q S k => q b g z σ H _ S ?_⟩
  simp only [fst1]
  cases r : f z with
  | ok a z' =>
    rw [r] at k
    obtain ⟨d, fr⟩ := a
    cases d with
    | bl c =>
      intro g' v H' st S' rb
      exact ⟨c, Rb.bl rb, k g' H' st S'⟩
    | _ => exact k.elim
  | exc c x z' => rw [r] at k; exact k
  | stuck => rw [r] at k; exact k
theorem nomarks (e : Expr) (h : ∀ es k p, e ≠ .Set es k p) (op : CmpOp) : behindInMarks op e = false := by
  cases e <;> first | rfl | exact absurd rfl (h _ _ _)
theorem s_cmp {cf : CF} {o : Cop} {ea eb : Expr} {ia ib : E} {pos : Pos} (hu : X.A.units + 64 < cLine) (hm : ∀ op, behindInMarks op eb = false) (ha : SndB w xr X W ea fun z => fst1 (evalE cf ia z)) (hb : SndB w xr X W eb fun z => fst1 (evalE cf ib z)) :
    SndP w xr W (fun t => PE X (.Compare ea [copO o] [eb] pos) t ∧ PT X (.Compare ea [copO o] [eb] pos) (tTest t)) (evalE cf (.cmp o ia ib)) := by
  have := s_two (w := w) (xr := xr) (W := W) (P := fun t => PE X (.Compare ea [copO o] [eb] pos) t ∧ PT X (.Compare ea [copO o] [eb] pos) (tTest t)) (r := rCmp X.K o) (G := fun z x y => ofB z (cmpD o z.os x y)) ha hb
    (fun ta tb pa pb => ⟨pe_cmpR (op_cmp hu o) pa pb (hm _), pt_cmpR (op_cmp hu o) pa pb (hm _)⟩) (cmp_hr o)
  simpa only [evalE] using this
theorem SndP.E {e : Expr} {f : Z → R Z (D × Bool)} (h : SndP w xr W (fun t => PE X e t ∧ PT X e (tTest t)) f) : SndE w xr X W e f := by
  obtain ⟨t, p, q⟩ := h
  exact ⟨t, p.1, q⟩
theorem SndP.T {e : Expr} {f : Z → R Z (D × Bool)} (h : SndP w xr W (fun t => PE X e t ∧ PT X e (tTest t)) f) : SndT w xr X W e f := by
  obtain ⟨t, p, q⟩ := h
  exact ⟨_, p.2, fun b g z σ H Q S k => q b g z σ H _ S k.toE⟩
theorem PostB.ofE {Q : VK} {d : D} {v : V} (S : Sim w xr b g z σ H) (h : Rp g.F g.al d v) (k : PostE w xr W b g σ H Q (.ok (d, false) z)) : Q v H := k.now S h
/-- a < b < c -/
theorem s_chain {cf : CF} {o o' : Cop} {ea eb ec : Expr} {ia ib ic : E} {pos : Pos} (hu : X.A.units + 64 < cLine) (hm : lastMarks [copO o, copO o'] [eb, ec] = false)
    (ha : SndB w xr X W ea fun z => fst1 (evalE cf ia z)) (hb : SndB w xr X W eb fun z => fst1 (evalE cf ib z)) (hc : SndB w xr X W ec fun z => fst1 (evalE cf ic z)) :
    SndP w xr W (fun t => PE X (.Compare ea [copO o, copO o'] [eb, ec] pos) t ∧ PT X (.Compare ea [copO o, copO o'] [eb, ec] pos) (tTest t)) (evalE cf (.chain o o' ia ib ic)) := by
  obtain ⟨ta, pa, qa⟩ := ha
  obtain ⟨tb, pb, qb⟩ := hb
  obtain ⟨tc, pc, qc⟩ := hc
  refine ⟨_, ⟨pe_chain (op_cmp hu o) (op_cmp hu o') pa pb pc hm, pt_chain (op_cmp hu o) (op_cmp hu o') pa pb pc hm⟩, fun b g z σ H Q S k => qa b g z σ H _ S ?_⟩
  simp only [evalE] at k
  simp only [fst1]
  cases ra : evalE cf ia z with
  | stuck => rw [ra] at k; exact k
  | exc c x z' => rw [ra] at k; exact k
  | ok x z1 =>
    rw [ra] at k
    intro g1 vx H1 st1 S1 rx
    refine qb b g1 z1 σ H1 _ S1 ?_
    have k1 := PostE.step S1 st1 k
    simp only [fst1]
    simp only [R.bind_ok] at k1
    cases rb : evalE cf ib z1 with
    | stuck => rw [rb] at k1; exact k1
    | exc c x z' => rw [rb] at k1; exact k1
    | ok y z2 =>
      rw [rb] at k1
      intro g2 vy H2 st2 S2 ry
      have k2 := PostE.step S2 st2 k1
      simp only [R.bind_ok] at k2
      refine cmp_hr (W := W) o b g2 z2 σ H2 _ x.1 y.1 vx vy S2 (rx.mono st2) ry ?_
      cases hcm : cmpD o z2.os x.1 y.1 with
      | none => rw [hcm] at k2; exact k2.elim
      | some c =>
        rw [hcm] at k2
        intro g3 v H3 st3 S3 tm
        have hv : v = .bl c := by
          have := tm.rp
          simpa [Rp] using this
        refine ⟨c, hv, ?_⟩
        have k3 := PostE.step S3 st3 k2
        cases c with
        | false =>
          rw [if_neg Bool.false_ne_true]
          exact k3.now S3 (rp_bl _ _)
        | true =>
          rw [if_pos rfl]
          refine qc b g3 z2 σ H3 _ S3 ?_
          simp only [fst1]
          simp only at k3
          cases rc : evalE cf ic z2 with
          | stuck => rw [rc] at k3; exact k3
          | exc c x z' => rw [rc] at k3; exact k3
          | ok u z4 =>
            rw [rc] at k3
            intro g4 vu H4 st4 S4 ru
            have k4 := PostE.step S4 st4 k3
            exact cmp_hr (W := W) o' b g4 z4 σ H4 Q y.1 u.1 vy vu S4 ((ry.mono st3).mono st4) ru k4

/-! ### and, or, not, if: as tests -/
theorem t_and {cf : CF} {ea : Expr} {rest : List Expr} {ia ib : E} {pos : Pos} {eb : Expr} (ha : SndT w xr X W ea (evalE cf ia))
    (hb : ∃ t, PW X (.BoolOp .And (eb :: rest) pos) t ∧ ∀ b g z σ H Q, Sim w xr b g z σ H → PostT w xr W b g σ H Q (evalE cf ib z) → t σ H Q) :
    ∃ t, PW X (.BoolOp .And (ea :: eb :: rest) pos) t ∧ ∀ b g z σ H Q, Sim w xr b g z σ H → PostT w xr W b g σ H Q (evalE cf (.and ia ib) z) → t σ H Q := by
  obtain ⟨ta, pa, qa⟩ := ha
  obtain ⟨tb, pb, qb⟩ := hb
  refine ⟨_, pw_and pa pb, fun b g z σ H Q S k => qa b g z σ H _ S ?_⟩
  simp only [evalE] at k
  cases ra : evalE cf ia z with
  | stuck => rw [ra] at k; exact k
  | exc c x z' => rw [ra] at k; exact k
  | ok x z1 =>
    rw [ra] at k
    obtain ⟨d, fr⟩ := x
    cases d with
    | bl c =>
      intro g1 H1 st1 S1
      have k1 := PostT.step st1 k
      cases c with
      | true => rw [if_pos rfl]; exact qb b g1 z1 σ H1 Q S1 k1
      | false => rw [if_neg Bool.false_ne_true]; exact k1 g1 H1 (.refl _ _) S1
    | _ => exact k.elim
theorem t_or {cf : CF} {ea : Expr} {rest : List Expr} {ia ib : E} {pos : Pos} {eb : Expr} (ha : SndT w xr X W ea (evalE cf ia))
    (hb : ∃ t, PW X (.BoolOp .Or (eb :: rest) pos) t ∧ ∀ b g z σ H Q, Sim w xr b g z σ H → PostT w xr W b g σ H Q (evalE cf ib z) → t σ H Q) :
    ∃ t, PW X (.BoolOp .Or (ea :: eb :: rest) pos) t ∧ ∀ b g z σ H Q, Sim w xr b g z σ H → PostT w xr W b g σ H Q (evalE cf (.or ia ib) z) → t σ H Q := by
  obtain ⟨ta, pa, qa⟩ := ha
  obtain ⟨tb, pb, qb⟩ := hb
  refine ⟨_, pw_or pa pb, fun b g z σ H Q S k => qa b g z σ H _ S ?_⟩
  simp only [evalE] at k
  cases ra : evalE cf ia z with
  | stuck => rw [ra] at k; exact k
  | exc c x z' => rw [ra] at k; exact k
  | ok x z1 =>
    rw [ra] at k
    obtain ⟨d, fr⟩ := x
    cases d with
    | bl c =>
      intro g1 H1 st1 S1
      have k1 := PostT.step st1 k
      cases c with
      | true => rw [if_pos rfl]; exact k1 g1 H1 (.refl _ _) S1
      | false => rw [if_neg Bool.false_ne_true]; exact qb b g1 z1 σ H1 Q S1 k1
    | _ => exact k.elim
theorem t_not {cf : CF} {ea : Expr} {ia : E} {pos : Pos} (ha : SndT w xr X W ea (evalE cf ia)) : SndT w xr X W (.UnaryOp .Not ea pos) (evalE cf (.not ia)) := by
  obtain ⟨ta, pa, qa⟩ := ha
  refine ⟨_, pt_not pa, fun b g z σ H Q S k => qa b g z σ H _ S ?_⟩
  simp only [evalE] at k
  cases ra : evalE cf ia z with
  | stuck => rw [ra] at k; exact k
  | exc c x z' => rw [ra] at k; exact k
  | ok x z1 =>
    rw [ra] at k
    obtain ⟨d, fr⟩ := x
    cases d with
    | bl c => exact k
    | _ => exact k.elim
/-! the same as values -/
theorem s_and {cf : CF} {ea eb : Expr} {rest : List Expr} {ia ib : E} {pos : Pos} (ha : SndE w xr X W ea (evalE cf ia)) (hb : SndE w xr X W (.BoolOp .And (eb :: rest) pos) (evalE cf ib)) :
    SndE w xr X W (.BoolOp .And (ea :: eb :: rest) pos) (evalE cf (.and ia ib)) := by
  obtain ⟨ta, pa, qa⟩ := ha
  obtain ⟨tb, pb, qb⟩ := hb
  refine ⟨_, pe_and pa pb, fun b g z σ H Q S k => qa b g z σ H _ S ?_⟩
  simp only [evalE] at k
  cases ra : evalE cf ia z with
  | stuck => rw [ra] at k; exact k
  | exc c x z' => rw [ra] at k; exact k
  | ok x z1 =>
    rw [ra] at k
    obtain ⟨d, fr⟩ := x
    cases d with
    | bl c =>
      intro g1 v H1 st1 S1 tm
      have hv : v = .bl c := by
        unfold Tmp at tm; rw [if_neg (by simp [D.cell])] at tm; simpa [Rp] using tm
      have k1 := PostE.step S1 st1 k
      refine ⟨c, hv, ?_⟩
      cases c with
      | true => rw [if_pos rfl]; exact qb b g1 z1 σ H1 Q S1 k1
      | false => rw [if_neg Bool.false_ne_true]; exact k1.now S1 (rp_bl _ _)
    | _ => exact k.elim
theorem s_or {cf : CF} {ea eb : Expr} {rest : List Expr} {ia ib : E} {pos : Pos} (ha : SndE w xr X W ea (evalE cf ia)) (hb : SndE w xr X W (.BoolOp .Or (eb :: rest) pos) (evalE cf ib)) :
    SndE w xr X W (.BoolOp .Or (ea :: eb :: rest) pos) (evalE cf (.or ia ib)) := by
  obtain ⟨ta, pa, qa⟩ := ha
  obtain ⟨tb, pb, qb⟩ := hb
  refine ⟨_, pe_or pa pb, fun b g z σ H Q S k => qa b g z σ H _ S ?_⟩
  simp only [evalE] at k
  cases ra : evalE cf ia z with
  | stuck => rw [ra] at k; exact k
  | exc c x z' => rw [ra] at k; exact k
  | ok x z1 =>
    rw [ra] at k
    obtain ⟨d, fr⟩ := x
    cases d with
    | bl c =>
      intro g1 v H1 st1 S1 tm
      have hv : v = .bl c := by
        unfold Tmp at tm; rw [if_neg (by simp [D.cell])] at tm; simpa [Rp] using tm
      have k1 := PostE.step S1 st1 k
      refine ⟨c, hv, ?_⟩
      cases c with
      | true => rw [if_pos rfl]; exact k1.now S1 (rp_bl _ _)
      | false => rw [if_neg Bool.false_ne_true]; exact qb b g1 z1 σ H1 Q S1 k1
    | _ => exact k.elim
theorem s_bone {ea : Expr} {op : BoolOp} {pos : Pos} {f : Z → R Z (D × Bool)} (ha : SndE w xr X W ea f) : SndE w xr X W (.BoolOp op [ea] pos) f := by
  obtain ⟨t, p, q⟩ := ha
  exact ⟨t, pe_one p, q⟩
theorem s_not {cf : CF} {ea : Expr} {ia : E} {pos : Pos} (ha : SndE w xr X W ea (evalE cf ia)) : SndE w xr X W (.UnaryOp .Not ea pos) (evalE cf (.not ia)) := by
  obtain ⟨ta, pa, qa⟩ := ha
  refine ⟨_, pe_not pa, fun b g z σ H Q S k => qa b g z σ H _ S ?_⟩
  simp only [evalE] at k
  cases ra : evalE cf ia z with
  | stuck => rw [ra] at k; exact k
  | exc c x z' => rw [ra] at k; exact k
  | ok x z1 =>
    rw [ra] at k
    obtain ⟨d, fr⟩ := x
    cases d with
    | bl c =>
      intro g1 v H1 st1 S1 tm
      have hv : v = .bl c := by
        unfold Tmp at tm; rw [if_neg (by simp [D.cell])] at tm; simpa [Rp] using tm
      exact ⟨c, hv, (PostE.step S1 st1 k).now S1 (rp_bl _ _)⟩
    | _ => exact k.elim
theorem s_ite {cf : CF} {ec ea eb : Expr} {ic ia ib : E} {pos : Pos} (hc : SndT w xr X W ec (evalE cf ic)) (ha : SndE w xr X W ea (evalE cf ia)) (hb : SndE w xr X W eb (evalE cf ib)) :
    SndE w xr X W (.IfExp ec ea eb pos) (evalE cf (.ite ic ia ib)) := by
  obtain ⟨tc, pc, qc⟩ := hc
  obtain ⟨ta, pa, qa⟩ := ha
  obtain ⟨tb, pb, qb⟩ := hb
  refine ⟨_, pe_ifExp pc pa pb, fun b g z σ H Q S k => qc b g z σ H _ S ?_⟩
  simp only [evalE] at k
  cases ra : evalE cf ic z with
  | stuck => rw [ra] at k; exact k
  | exc c x z' => rw [ra] at k; exact k
  | ok x z1 =>
    rw [ra] at k
    obtain ⟨d, fr⟩ := x
    cases d with
    | bl c =>
      intro g1 H1 st1 S1
      have k1 := PostE.step S1 st1 k
      cases c with
      | true => rw [if_pos rfl]; exact qa b g1 z1 σ H1 Q S1 k1
      | false => rw [if_neg Bool.false_ne_true]; exact qb b g1 z1 σ H1 Q S1 k1
    | _ => exact k.elim
theorem s_neg {cf : CF} {ea : Expr} {ia : E} {pos : Pos} (ha : SndB w xr X W ea fun z => fst1 (evalE cf ia z)) : SndE w xr X W (.UnaryOp .USub ea pos) (evalE cf (.neg ia)) := by
  have : SndE w xr X W (.UnaryOp .USub ea pos) _ := s_one (w := w) (xr := xr) (W := W) (P := PE X (.UnaryOp .USub ea pos)) (r := rU fun i => .int (-i)) (G := fun z x => negZ z x) ha (fun ta pa => pe_un un_neg pa) ?_
  · simpa only [evalE] using this
  · intro b g z σ H Q x vx S rx k
    unfold negZ at k
    split at k
    · rw [rx.int]; exact ⟨_, rfl, k.now S (rp_int _ _)⟩
    · exact k.elim
end
end Vi

namespace Vi
open PySem L2

section
variable {w : Wd} {xr : Nat → Option Addr → V → Prop} {X : Cx} {W : WX} {b : Bs} {g g2 : Gh} {z z2 : Z} {σ : St} {H H2 : Hp}

/-! ### arguments -/
def Rbs (w : Wd) (g : Gh) (H : Hp) : List D → List V → Prop
  | [], vs => vs = []
  | d :: ds, vs => ∃ v r, vs = v :: r ∧ Rb w g H d v ∧ Rbs w g H ds r
theorem Rbs.mono {g' : Gh} {H' : Hp} (s : Stp g H g' H') : ∀ {ds : List D} {vs : List V}, Rbs w g H ds vs → Rbs w g' H' ds vs
  | [], vs, h => h
  | d :: ds, vs, h => by
    obtain ⟨v, r, e, h1, h2⟩ := h
    exact ⟨v, r, e, h1.mono s, h2.mono s⟩
def PostA (w : Wd) (xr : Nat → Option Addr → V → Prop) (W : WX) (b : Bs) (g : Gh) (σ : St) (H : Hp) (Q : List V → Hp → Prop) : R Z (List D) → Prop
  | .ok ds z' => ∀ g' vs H', Stp g H g' H' → Sim w xr b g' z' σ H' → Rbs w g' H' ds vs → Q vs H'
  | .exc c x z' => ∀ g' cls dd H', Stp g H g' H' → Sim w xr b g' z' σ H' → XR w.cad g' c x cls dd H' → W cls dd σ H'
  | .stuck => False
def PostAF (w : Wd) (xr : Nat → Option Addr → V → Prop) (W : WX) (b : Bs) (g : Gh) (σ : St) (H : Hp) (Q : List V → Hp → Prop) : R Z (List D) → Prop
  | .ok ds z' => ∀ g' vs H', Stp g H g' H' → Sim w xr b g' z' σ H' → Rps g'.F g'.al ds vs → Q vs H'
  | .exc c x z' => ∀ g' cls dd H', Stp g H g' H' → Sim w xr b g' z' σ H' → XR w.cad g' c x cls dd H' → W cls dd σ H'
  | .stuck => False
theorem PostA.step {Q : List V → Hp → Prop} {r : R Z (List D)} (st : Stp g H g2 H2) (k : PostA w xr W b g σ H Q r) : PostA w xr W b g2 σ H2 Q r := by
  cases r with
  | ok a z' => exact fun g' v H' s' S' t => k g' v H' (st.trans s') S' t
  | exc c x z' => exact fun g' cls dd H' s' S' t => k g' cls dd H' (st.trans s') S' t
  | stuck => exact k.elim
theorem PostAF.step {Q : List V → Hp → Prop} {r : R Z (List D)} (st : Stp g H g2 H2) (k : PostAF w xr W b g σ H Q r) : PostAF w xr W b g2 σ H2 Q r := by
  cases r with
  | ok a z' => exact fun g' v H' s' S' t => k g' v H' (st.trans s') S' t
  | exc c x z' => exact fun g' cls dd H' s' S' t => k g' cls dd H' (st.trans s') S' t
  | stuck => exact k.elim
def SndA (w : Wd) (xr : Nat → Option Addr → V → Prop) (X : Cx) (W : WX) (es : List Expr) (f : Z → R Z (List D)) : Prop :=
  ∃ t, PA X es t ∧ ∀ b g z σ H Q, Sim w xr b g z σ H → PostA w xr W b g σ H Q (f z) → t σ H Q
def SndAF (w : Wd) (xr : Nat → Option Addr → V → Prop) (X : Cx) (W : WX) (es : List Expr) (f : Z → R Z (List D)) : Prop :=
  ∃ t, PA X es t ∧ ∀ b g z σ H Q, Sim w xr b g z σ H → PostAF w xr W b g σ H Q (f z) → t σ H Q
def Expr.star : Expr → Bool
  | .Starred .. => true
  | _ => false
theorem star_ok {e : Expr} (h : Expr.star e = false) (es : List Expr) (env : Env) : starEach (e :: es) env = (false, eval e env) :: starEach es env := by
  cases e <;> first | rfl | (simp [Expr.star] at h)
theorem a_nil {cf : CF} : SndA w xr X W [] (evalEs cf []) := ⟨_, pa_nil, fun b g z σ H Q S k => k g [] H (.refl _ _) S rfl⟩
theorem af_nil {cf : CF} : SndAF w xr X W [] (evalEs cf []) := ⟨_, pa_nil, fun b g z σ H Q S k => k g [] H (.refl _ _) S (by simp [Rps])⟩
theorem a_cons {cf : CF} {e : Expr} {es : List Expr} {i : E} {is : List E} (hs : Expr.star e = false) (he : SndB w xr X W e fun z => fst1 (evalE cf i z)) (hes : SndA w xr X W es (evalEs cf is)) :
    SndA w xr X W (e :: es) (evalEs cf (i :: is)) := by
  obtain ⟨ta, pa, qa⟩ := he
  obtain ⟨tb, pb, qb⟩ := hes
  refine ⟨_, pa_cons pa pb (star_ok hs _ _), fun b g z σ H Q S k => qa b g z σ H _ S ?_⟩
  simp only [evalEs] at k
  simp only [fst1]
  cases ra : evalE cf i z with
  | stuck => rw [ra] at k; exact k
  | exc c x z' => rw [ra] at k; exact k
  | ok x z1 =>
    rw [ra] at k
    intro g1 v H1 st1 S1 rx
    refine qb b g1 z1 σ H1 _ S1 ?_
    have k1 := PostA.step st1 k
    simp only [R.bind_ok] at k1
    cases rb : evalEs cf is z1 with
    | stuck => rw [rb] at k1; exact k1
    | exc c x z' => rw [rb] at k1; exact k1
    | ok y z2 =>
      rw [rb] at k1
      intro g2 vs H2 st2 S2 ry
      exact k1 g2 (v :: vs) H2 st2 S2 ⟨v, vs, rfl, rx.mono st2, ry⟩
theorem af_cons {cf : CF} {e : Expr} {es : List Expr} {i : E} {is : List E} (hs : Expr.star e = false) (he : SndF w xr X W e fun z => fst1 (evalE cf i z)) (hes : SndAF w xr X W es (evalEs cf is)) :
    SndAF w xr X W (e :: es) (evalEs cf (i :: is)) := by
  obtain ⟨ta, pa, qa⟩ := he
  obtain ⟨tb, pb, qb⟩ := hes
  refine ⟨_, pa_cons pa pb (star_ok hs _ _), fun b g z σ H Q S k => qa b g z σ H _ S ?_⟩
  simp only [evalEs] at k
  simp only [fst1]
  cases ra : evalE cf i z with
  | stuck => rw [ra] at k; exact k
  | exc c x z' => rw [ra] at k; exact k
  | ok x z1 =>
    rw [ra] at k
    intro g1 v H1 st1 S1 rx
    refine qb b g1 z1 σ H1 _ S1 ?_
    have k1 := PostAF.step st1 k
    simp only [R.bind_ok] at k1
    cases rb : evalEs cf is z1 with
    | stuck => rw [rb] at k1; exact k1
    | exc c x z' => rw [rb] at k1; exact k1
    | ok y z2 =>
      rw [rb] at k1
      intro g2 vs H2 st2 S2 ry
      exact k1 g2 (v :: vs) H2 st2 S2 (Rps.cons (Rp.mono st2.F st2.al _ _ rx) ry)
/-! ### things that stand still -/
def Rsts (w : Wd) (xr : Nat → Option Addr → V → Prop) (b : Bs) (g : Gh) : List D → List V → Prop
  | [], vs => vs = []
  | d :: ds, vs => ∃ v r, vs = v :: r ∧ Rst w xr b g d v ∧ Rsts w xr b g ds r
theorem Rsts.rbs {ds : List D} {vs : List V} (h : Rsts w xr b g ds vs) {g2 : Gh} {z2 : Z} {σ2 : St} {H2 : Hp} (l : Le g g2) (S : Sim w xr b g2 z2 σ2 H2) : Rbs w g2 H2 ds vs := by
  induction ds generalizing vs with
  | nil => cases h; exact rfl
  | cons d ds ih =>
    obtain ⟨v, r, rfl, h1, h2⟩ := h
    exact ⟨v, r, rfl, h1 _ _ _ _ l S, ih h2⟩
def PostAN (w : Wd) (xr : Nat → Option Addr → V → Prop) (W : WX) (b : Bs) (g : Gh) (σ : St) (H : Hp) (Q : List V → Hp → Prop) : R Z (List D) → Prop
  | .ok ds z' => ∀ g' vs H', Stp g H g' H' → Sim w xr b g' z' σ H' → Rsts w xr b g' ds vs → Q vs H'
  | .exc c x z' => ∀ g' cls dd H', Stp g H g' H' → Sim w xr b g' z' σ H' → XR w.cad g' c x cls dd H' → W cls dd σ H'
  | .stuck => False
theorem PostAN.step {Q : List V → Hp → Prop} {r : R Z (List D)} (st : Stp g H g2 H2) (k : PostAN w xr W b g σ H Q r) : PostAN w xr W b g2 σ H2 Q r := by
  cases r with
  | ok a z' => exact fun g' v H' s' S' t => k g' v H' (st.trans s') S' t
  | exc c x z' => exact fun g' cls dd H' s' S' t => k g' cls dd H' (st.trans s') S' t
  | stuck => exact k.elim
def SndAN (w : Wd) (xr : Nat → Option Addr → V → Prop) (X : Cx) (W : WX) (es : List Expr) (f : Z → R Z (List D)) : Prop :=
  ∃ t, PA X es t ∧ ∀ b g z σ H Q, Sim w xr b g z σ H → PostAN w xr W b g σ H Q (f z) → t σ H Q
theorem an_nil {cf : CF} : SndAN w xr X W [] (evalEs cf []) := ⟨_, pa_nil, fun b g z σ H Q S k => k g [] H (.refl _ _) S rfl⟩
theorem an_cons {cf : CF} {e : Expr} {es : List Expr} {i : E} {is : List E} (hs : Expr.star e = false) (he : SndN w xr X W e fun z => fst1 (evalE cf i z)) (hes : SndAN w xr X W es (evalEs cf is)) :
    SndAN w xr X W (e :: es) (evalEs cf (i :: is)) := by
  obtain ⟨ta, pa, qa⟩ := he
  obtain ⟨tb, pb, qb⟩ := hes
  refine ⟨_, pa_cons pa pb (star_ok hs _ _), fun b g z σ H Q S k => qa b g z σ H _ S ?_⟩
  simp only [evalEs] at k
  simp only [fst1]
  cases ra : evalE cf i z with
  | stuck => rw [ra] at k; exact k
  | exc c x z' => rw [ra] at k; exact k
  | ok x z1 =>
    rw [ra] at k
    intro g1 v H1 st1 S1 rx
    refine qb b g1 z1 σ H1 _ S1 ?_
    have k1 := PostAN.step st1 k
    simp only [R.bind_ok] at k1
    cases rb : evalEs cf is z1 with
    | stuck => rw [rb] at k1; exact k1
    | exc c x z' => rw [rb] at k1; exact k1
    | ok y z2 =>
      rw [rb] at k1
      intro g2 vs H2 st2 S2 ry
      exact k1 g2 (v :: vs) H2 st2 S2 ⟨v, vs, rfl, rx.mono st2.le, ry⟩
/-! ### tuples and lists written -/
theorem s_tup {cf : CF} {es : List Expr} {is : List E} {k0 : Nat} {pos : Pos} (hl : es.length ≤ 1000) (hi : is.length = es.length) (h : SndAF w xr X W es (evalEs cf is)) (hlen : ∀ z ds z', evalEs cf is z = .ok ds z' → ds.length = is.length) :
    SndE w xr X W (.Tuple es k0 pos) (evalE cf (.tup is)) := by
  obtain ⟨t, p, q⟩ := h
  refine ⟨_, pe_tup p, fun b g z σ H Q S k => q b g z σ H _ S ?_⟩
  simp only [evalE] at k
  cases r : evalEs cf is z with
  | stuck => rw [r] at k; exact k
  | exc c x z' => rw [r] at k; exact k
  | ok ds z1 =>
    rw [r] at k
    intro g1 vs H1 st1 S1 rs
    have := hlen _ _ _ r
    refine ⟨by rw [Rps.length rs, PySem.sizeLine_eq]; omega, fun p hp => ?_⟩
    exact PostE.tup S1 hp rs (PostE.step S1 st1 k)
theorem s_lst {cf : CF} {es : List Expr} {is : List E} {pos : Pos} (hl : es.length ≤ 1000) (hi : is.length = es.length) (h : SndAF w xr X W es (evalEs cf is)) (hlen : ∀ z ds z', evalEs cf is z = .ok ds z' → ds.length = is.length) :
    SndE w xr X W (.List es pos) (evalE cf (.lst is)) := by
  obtain ⟨t, p, q⟩ := h
  refine ⟨_, pe_lst p, fun b g z σ H Q S k => q b g z σ H _ S ?_⟩
  simp only [evalE] at k
  cases r : evalEs cf is z with
  | stuck => rw [r] at k; exact k
  | exc c x z' => rw [r] at k; exact k
  | ok ds z1 =>
    rw [r] at k
    intro g1 vs H1 st1 S1 rs
    have := hlen _ _ _ r
    refine ⟨by rw [Rps.length rs, PySem.sizeLine_eq]; omega, fun p hp => ?_⟩
    exact PostE.new S1 hp rfl (cel_lst rs) (PostE.step S1 st1 k)
theorem evalEs_length {cf : CF} : ∀ (is : List E) (z : Z) (ds : List D) (z' : Z), evalEs cf is z = .ok ds z' → ds.length = is.length
  | [], z, ds, z', h => by simp only [evalEs] at h; cases h; rfl
  | i :: is, z, ds, z', h => by
    simp only [evalEs] at h
    cases r : evalE cf i z with
    | stuck => rw [r] at h; cases h
    | exc c x z1 => rw [r] at h; cases h
    | ok x z1 =>
      rw [r] at h
      simp only [R.bind_ok] at h
      cases r2 : evalEs cf is z1 with
      | stuck => rw [r2] at h; cases h
      | exc c x z2 => rw [r2] at h; cases h
      | ok xs z2 =>
        rw [r2] at h
        simp only [R.bind_ok] at h
        cases h
        rw [List.length_cons, List.length_cons, evalEs_length is z1 xs _ r2]

/-! ### items -/
def rIxD : R2 := fun x y H Q => ∃ a v, x = .ref a ∧ DGet H a y (some v) ∧ Q v H
theorem ix_dict (hu : X.A.units + 1 < cLine) : IxR X rIxD := by
  rintro value slice pins s σ H x y v u Q I rx ry ⟨a, v', rfl, h, q⟩ hs
  cases rx
  exact PyProof.Rows.tail_any (dict_typeIs I h) PySem.F.slot_dict_getitem.lookup (d_getItem hu I h ry fun w' s' I' r' => ⟨v', H, I', r', q⟩) hs
def rIxA (K : PySem.W.Frag) : R2 := orR (rIx K) rIxD
theorem atI_rps {F : Hp} {al : List Addr} {ds : List D} {vs : List V} {i : Int} {d : D} (h : Rps F al ds vs) (e : atI ds i = some d) : ∃ v, atI vs i = some v ∧ Rp F al d v := by
  unfold atI at e ⊢
  rw [Rps.length h]
  cases hj : ixN ds.length i with
  | none => rw [hj] at e; cases e
  | some j =>
    rw [hj] at e
    exact Rps.get h e
theorem strOk_sign {s : Str} {c : Nat} {k : Int} (h : PyData.strOk s = true) (e : atI s.cps.toList k = some c) : PyData.strOk ⟨#[c]⟩ = true := strOk_of h fun x hx => by
  obtain ⟨j, _, h2, _⟩ := atI_get e
  have : x = c := by simpa using hx
  subst this
  exact List.mem_of_getElem? h2
theorem ix_hr : ∀ b g z σ H Q x y vx vy, Sim w xr b g z σ H → Rb w g H x vx → Rb w g H y vy → PostE w xr W b g σ H Q (ofD z (ixD z.os x y)) → rIxA X.K vx vy H Q := by
  intro b g z σ H Q x y vx vy S rx ry k
  have fin : ∀ {d : D} {v : V}, ixD z.os x y = some d → Rp g.F g.al d v → Q v H := fun {d v} e h => by
    rw [e] at k
    exact PostE.now S h k
  have dct : ∀ (kvs : List (D × D)) (a : Addr), ((∃ l, Rd H a (.dK l) ∧ Rkv g.F g.al kvs l) ∨ (∃ l, H a = some (.dT l) ∧ Rkt g.F g.al kvs l)) → ixD z.os x y = getD kvs y → vx = .ref a → rIxA X.K vx vy H Q := by
    intro kvs a hh hc ea
    subst ea
    by_cases hk : (keyOk y && kvs.all fun p => keyOk p.1) = true
    · have ry' : Rp g.F g.al y vy := by
        rw [Bool.and_eq_true] at hk
        obtain ⟨kk, rfl⟩ := keyOk_kD hk.1
        cases kk <;> exact ry
      obtain ⟨o, h1, h2, h3⟩ := dct_in ry' hh hk
      cases e : getD kvs y with
      | none => rw [hc, e] at k; exact k.elim
      | some d =>
        rw [e] at h3
        obtain ⟨v, rfl, h4⟩ := h3
        exact .inr ⟨a, v, rfl, h1, fin (hc.trans e) h4⟩
    · have : getD kvs y = none := by unfold getD; rw [if_neg hk]
      rw [hc, this] at k; exact k.elim
  have seq : ∀ (ds : List D) (a : Addr) (vs : List V), Rd H a (.lst vs) → Rps g.F g.al ds vs → (∀ i, y = .int i → ixD z.os x y = atI ds i) → vx = .ref a → (∃ i, y = .int i) → rIxA X.K vx vy H Q := by
    intro ds a vs hs hr hc ea ⟨i, ei⟩
    subst ea ei
    rw [ry.int]
    cases e : atI ds i with
    | none => rw [hc i rfl, e] at k; exact k.elim
    | some d =>
      obtain ⟨v, h1, h2⟩ := atI_rps hr e
      exact .inl (.inl ⟨a, vs, i, v, rfl, rfl, .inl hs, h1, fin ((hc i rfl).trans e) h2⟩)
  cases x with
  | tup ds =>
    obtain ⟨a, vs, rfl, r1, r2⟩ := rx.tup S
    cases y with
    | int i =>
      rw [ry.int]
      cases e : atI ds i with
      | none => simp only [ixD, e] at k; exact k.elim
      | some d =>
        obtain ⟨v, h1, h2⟩ := atI_rps r2 e
        exact .inl (.inr (.inl ⟨a, vs, i, v, rfl, rfl, SqT.of r1, h1, fin (by simp only [ixD, e]) h2⟩))
    | _ => exact k.elim
  | str s =>
    obtain ⟨rfl, hs⟩ := rx.str
    cases y with
    | int i =>
      rw [ry.int]
      simp only [ixD] at k
      split at k
      · rename_i hz
        cases e : atI s.cps.toList i with
        | none => rw [e] at k; exact k.elim
        | some c =>
          rw [e] at k
          exact .inl (.inr (.inr ⟨s, i, c, rfl, rfl, hz, e, PostE.now S (rp_str (strOk_sign hs e) _ _) k⟩))
      · exact k.elim
    | _ => exact k.elim
  | lst ds =>
    obtain ⟨a, vs, rfl, r1, r2⟩ := rx
    cases y with
    | int i => exact seq ds a vs (unbox_sub.rd r1) r2 (fun i e => by cases e; rfl) rfl ⟨_, rfl⟩
    | _ => exact k.elim
  | dct kvs =>
    obtain ⟨a, rfl, r1⟩ := dctO_of S (d := .dct kvs) rx rfl
    exact dct kvs a r1 rfl rfl
  | box j =>
    have rx0 := rx
    have rx' : Rp g.F g.al (.box j) vx := rx
    simp only [Rp] at rx'
    obtain ⟨a, ha, rfl⟩ := rx'
    cases hj : z.os[j]? with
    | none => simp only [ixD, hj] at k; exact k.elim
    | some bx =>
      obtain ⟨a', ha', q'⟩ := S.boxAt hj
      rw [ha] at ha'; cases ha'
      cases bx with
      | lst ds =>
        obtain ⟨vs, q1, q2⟩ := q'
        cases y with
        | int i => exact seq ds a vs (.inl q1) q2 (fun i e => by cases e; simp only [ixD, hj]) rfl ⟨_, rfl⟩
        | _ => simp only [ixD, hj] at k; exact k.elim
      | dct kvs =>
        obtain ⟨a', e', q2⟩ := dctO_of S (kvs := kvs) rx0 (by simp [dctO, hj])
        cases e'
        exact dct kvs a q2 (by simp only [ixD, hj]) rfl
      | lkd kvs =>
        obtain ⟨a', e', q2⟩ := dctO_of S (kvs := kvs) rx0 (by simp [dctO, hj])
        cases e'
        exact dct kvs a q2 (by simp only [ixD, hj]) rfl
      | ins c fs => simp only [ixD, hj] at k; exact k.elim
  | _ => exact k.elim
def Expr.slice : Expr → Bool
  | .Slice .. => true
  | _ => false
theorem plain_ok {e : Expr} (h : Expr.slice e = false) : PlainIx e := by
  intro o i
  cases e <;> first | rfl | (simp [Expr.slice] at h)
theorem s_ix {cf : CF} {ea eb : Expr} {ia ib : E} {pos : Pos} (hu : X.A.units + 64 < cLine) (hs : Expr.slice eb = false) (ha : SndB w xr X W ea fun z => fst1 (evalE cf ia z)) (hb : SndB w xr X W eb fun z => fst1 (evalE cf ib z)) :
    SndE w xr X W (.Subscript ea eb pos) (evalE cf (.ix ia ib)) := by
  have : SndE w xr X W (.Subscript ea eb pos) _ := s_two (w := w) (xr := xr) (W := W) (P := PE X (.Subscript ea eb pos)) (r := rIxA X.K) (G := fun z x y => ofD z (ixD z.os x y)) ha hb
    (fun ta tb pa pb => pe_ix (ix_seq.or (ix_dict (by omega))) pa pb (plain_ok hs)) ix_hr
  simpa only [evalE] using this
end
end Vi

namespace Vi
open PySem L2

section
variable {w : Wd} {xr : Nat → Option Addr → V → Prop} {X : Cx} {W : WX} {b : Bs} {g g2 : Gh} {z z2 : Z} {σ : St} {H H2 : Hp}

/-! ### slices -/
def PostO (w : Wd) (xr : Nat → Option Addr → V → Prop) (W : WX) (b : Bs) (g : Gh) (σ : St) (H : Hp) (Q : Option Int → Hp → Prop) : R Z (List D) → Prop
  | .ok ds z' => match intO ds with
    | some o => ∀ g' H', Stp g H g' H' → Sim w xr b g' z' σ H' → Q o H'
    | none => False
  | .exc c x z' => ∀ g' cls dd H', Stp g H g' H' → Sim w xr b g' z' σ H' → XR w.cad g' c x cls dd H' → W cls dd σ H'
  | .stuck => False
def SndO (w : Wd) (xr : Nat → Option Addr → V → Prop) (X : Cx) (W : WX) (e : Option Expr) (f : Z → R Z (List D)) : Prop :=
  ∃ t, PO X e t ∧ ∀ b g z σ H Q, Sim w xr b g z σ H → PostO w xr W b g σ H Q (f z) → t σ H Q
theorem o_none {cf : CF} : SndO w xr X W none (evalEs cf []) := ⟨_, po_none, fun b g z σ H Q S k => k g H (.refl _ _) S⟩
theorem o_some {cf : CF} {e : Expr} {i : E} (h : SndB w xr X W e fun z => fst1 (evalE cf i z)) : SndO w xr X W (some e) (evalEs cf [i]) := by
  obtain ⟨t, p, q⟩ := h
  refine ⟨_, po_some p, fun b g z σ H Q S k => q b g z σ H _ S ?_⟩
  simp only [evalEs] at k
  simp only [fst1]
  cases r : evalE cf i z with
  | stuck => rw [r] at k; exact k
  | exc c x z' => rw [r] at k; exact k
  | ok x z1 =>
    rw [r] at k
    obtain ⟨d, fr⟩ := x
    simp only [R.bind_ok] at k
    cases d with
    | int j =>
      intro g1 v H1 st1 S1 rx
      exact ⟨j, rx.int, k g1 H1 st1 S1⟩
    | _ => exact k.elim
def rSlR : V → Option Int → Option Int → Hp → VK → Prop := fun x lo hi H Q => ∃ a xs, x = .ref a ∧ Rd H a (.lst xs) ∧ ∀ p, H p = none → Q (.ref p) (upd H p (.lst (cutV xs lo hi)))
def rSlice (K : PySem.W.Frag) : V → Option Int → Option Int → Hp → VK → Prop := fun x lo hi H Q => rSlL K x lo hi H Q ∨ (rSlA K x lo hi H Q ∨ rSlS x lo hi H Q)
theorem cut_rps {F : Hp} {al : List Addr} {ds : List D} {vs : List V} (h : Rps F al ds vs) (lo hi : Option Int) : Rps F al (cutD ds lo hi) (cutV vs lo hi) := by
  unfold cutD cutV
  rw [Rps.length h]
  exact Rps.take _ (Rps.drop _ h)
theorem sl_hr : ∀ b g z σ H Q x vx lo hi, Sim w xr b g z σ H → Rb w g H x vx → PostE w xr W b g σ H Q (ofT z (slD z.os x lo hi)) → rSlice X.K vx lo hi H Q := by
  intro b g z σ H Q x vx lo hi S rx k
  unfold slD at k
  split at k
  · rename_i ds
    have rx' : Rp g.F g.al (.tup ds) vx := rx
    obtain ⟨a, vs, rfl, r1, r2⟩ := rx.tup S
    refine .inr (.inl ⟨a, vs, rfl, SqT.of r1, fun hw => ?_, fun hw p hp => ?_⟩)
    · have e : cutD ds lo hi = ds := by
        unfold cutD
        rw [← Rps.length r2, hw.1, hw.2]
        simp [Rps.length r2]
      rw [e] at k
      exact k.now S rx'
    · exact k.tup S hp (cut_rps r2 lo hi)
  · rename_i s
    obtain ⟨rfl, hs⟩ := rx.str
    split at k
    · rename_i hz
      refine .inr (.inr ⟨s, rfl, hz, k.now S (rp_str (strOk_of hs fun c hc => ?_) _ _)⟩)
      have hc' : c ∈ cutD s.cps.toList lo hi := hc
      unfold cutD at hc'
      exact List.mem_of_mem_drop (List.mem_of_mem_take hc')
    · exact k.elim
  · split at k
    · rename_i ds hd
      obtain ⟨a, vs, rfl, r1, r2⟩ := rdL_of S rx hd
      refine .inl ⟨a, vs, rfl, .inl r1, fun p hp => ?_⟩
      exact k.new S hp rfl (cel_lst (cut_rps r2 lo hi))
    · exact k.elim
theorem s_sl {cf : CF} {ea : Expr} {lo hi : Option Expr} {ia : E} {il ih : List E} {pos p2 : Pos} (ha : SndB w xr X W ea fun z => fst1 (evalE cf ia z)) (hl : SndO w xr X W lo (evalEs cf il)) (hh : SndO w xr X W hi (evalEs cf ih)) :
    SndE w xr X W (.Subscript ea (.Slice lo hi none p2) pos) (evalE cf (.sl ia il ih)) := by
  obtain ⟨ta, pa, qa⟩ := ha
  obtain ⟨tl, pl, ql⟩ := hl
  obtain ⟨th, ph, qh⟩ := hh
  refine ⟨_, pe_slice (sl_list.or (sl_tupA.or sl_str)) pa pl ph, fun b g z σ H Q S k => qa b g z σ H _ S ?_⟩
  simp only [evalE] at k
  simp only [fst1]
  cases ra : evalE cf ia z with
  | stuck => rw [ra] at k; exact k
  | exc c x z' => rw [ra] at k; exact k
  | ok x z1 =>
    rw [ra] at k
    intro g1 v H1 st1 S1 rx
    refine ql b g1 z1 σ H1 _ S1 ?_
    have k1 := PostE.step S1 st1 k
    simp only [R.bind_ok] at k1
    cases rl : evalEs cf il z1 with
    | stuck => rw [rl] at k1; exact k1
    | exc c x z' => rw [rl] at k1; exact k1
    | ok l z2 =>
      rw [rl] at k1
      simp only [R.bind_ok] at k1
      cases el : intO l with
      | none => rw [el] at k1; exact k1.elim
      | some lo' =>
        simp only [PostO, el]
        intro g2 H2 st2 S2
        refine qh b g2 z2 σ H2 _ S2 ?_
        have k2 := PostE.step S2 st2 k1
        rw [el] at k2
        simp only [withI] at k2
        cases rh : evalEs cf ih z2 with
        | stuck => rw [rh] at k2; exact k2
        | exc c x z' => rw [rh] at k2; exact k2
        | ok h z3 =>
          rw [rh] at k2
          simp only [R.bind_ok] at k2
          cases eh : intO h with
          | none => rw [eh] at k2; exact k2.elim
          | some hi' =>
            rw [eh] at k2
            simp only [PostO, eh]
            intro g3 H3 st3 S3
            have k3 := PostE.step S3 st3 k2
            exact sl_hr (W := W) b g3 z3 σ H3 Q x.1 v lo' hi' S3 ((rx.mono st2).mono st3) k3
end

/-! ### the order of data of one shape is strict and total -/
theorem bfalse {b : Bool} (h : ¬ b = true) : b = false := by cases b <;> simp_all
mutual
theorem eqD_eq : ∀ (a : Sh) (d e : D), hasSh a d = true → hasSh a e = true → (eqD d e = true ↔ d = e)
  | .i, d, e, h, h' => by
    cases d <;> simp [hasSh] at h
    cases e <;> simp [hasSh] at h'
    simp [eqD]
  | .s, d, e, h, h' => by
    cases d <;> simp [hasSh] at h
    cases e <;> simp [hasSh] at h'
    simp [eqD]
  | .t l, d, e, h, h' => by
    cases d <;> simp [hasSh] at h
    cases e <;> simp [hasSh] at h'
    simp only [eqD, eqDs_eq l _ _ h h', D.tup.injEq]
theorem eqDs_eq : ∀ (l : List Sh) (ds es : List D), hasShs l ds = true → hasShs l es = true → (eqDs ds es = true ↔ ds = es)
  | [], [], [], _, _ => by simp [eqDs]
  | [], _ :: _, _, h, _ => by simp [hasShs] at h
  | [], [], _ :: _, _, h => by simp [hasShs] at h
  | _ :: _, [], _, h, _ => by simp [hasShs] at h
  | _ :: _, _ :: _, [], _, h => by simp [hasShs] at h
  | a :: l, d :: ds, e :: es, h, h' => by
    simp only [hasShs, Bool.and_eq_true] at h h'
    simp only [eqDs, Bool.and_eq_true, eqD_eq a d e h.1 h'.1, eqDs_eq l ds es h.2 h'.2, List.cons.injEq]
end
mutual
theorem lt_irr : ∀ (d : D), ltD d d = false
  | .int i => by simp [ltD]
  | .str s => by simp only [ltD, decide_eq_false_iff_not]; exact List.lt_irrefl _
  | .tup ds => by simp only [ltD]; exact lts_irr ds
  | .non => rfl
  | .bl _ => rfl
  | .lst _ => rfl
  | .dct _ => rfl
  | .box _ => rfl
theorem lts_irr : ∀ (ds : List D), ltDs ds ds = false
  | [] => rfl
  | d :: ds => by
    simp only [ltDs]
    split
    · exact lts_irr ds
    · exact lt_irr d
end
mutual
theorem lt_tri : ∀ (a : Sh) (d e : D), hasSh a d = true → hasSh a e = true → ltD d e = true ∨ d = e ∨ ltD e d = true
  | .i, d, e, h, h' => by
    cases d <;> simp [hasSh] at h
    cases e <;> simp [hasSh] at h'
    simp only [ltD, decide_eq_true_eq, D.int.injEq]; omega
  | .s, d, e, h, h' => by
    cases d <;> simp [hasSh] at h
    cases e <;> simp [hasSh] at h'
    rename_i s t
    simp only [ltD, decide_eq_true_eq, D.str.injEq]
    by_cases h1 : s.cps.toList < t.cps.toList
    · exact .inl h1
    · by_cases h2 : t.cps.toList < s.cps.toList
      · exact .inr (.inr h2)
      · refine .inr (.inl ?_)
        have : s.cps.toList = t.cps.toList := List.le_antisymm (List.not_lt.mp h2) (List.not_lt.mp h1)
        cases s; cases t
        simp only [Str.mk.injEq]
        exact Array.toList_inj.mp this
  | .t l, d, e, h, h' => by
    cases d <;> simp [hasSh] at h
    cases e <;> simp [hasSh] at h'
    simp only [ltD, D.tup.injEq]
    exact lts_tri l _ _ h h'
theorem lts_tri : ∀ (l : List Sh) (ds es : List D), hasShs l ds = true → hasShs l es = true → ltDs ds es = true ∨ ds = es ∨ ltDs es ds = true
  | [], [], [], _, _ => .inr (.inl rfl)
  | [], _ :: _, _, h, _ => by simp [hasShs] at h
  | [], [], _ :: _, _, h => by simp [hasShs] at h
  | _ :: _, [], _, h, _ => by simp [hasShs] at h
  | _ :: _, _ :: _, [], _, h => by simp [hasShs] at h
  | a :: l, d :: ds, e :: es, h, h' => by
    simp only [hasShs, Bool.and_eq_true] at h h'
    have q := eqD_eq a d e h.1 h'.1
    have q' := eqD_eq a e d h'.1 h.1
    simp only [ltDs, List.cons.injEq]
    by_cases he : d = e
    · subst he
      rw [q.mpr rfl]
      simp only [if_true, true_and]
      exact lts_tri l ds es h.2 h'.2
    · have n1 : eqD d e = false := bfalse fun z => he (q.mp z)
      have n2 : eqD e d = false := bfalse fun z => he (q'.mp z).symm
      rw [n1, n2]
      simp only [Bool.false_eq_true, if_false]
      rcases lt_tri a d e h.1 h'.1 with z | z | z
      · exact .inl z
      · exact absurd z he
      · exact .inr (.inr z)
end
mutual
theorem lt_trans' : ∀ (a : Sh) (d e f : D), hasSh a d = true → hasSh a e = true → hasSh a f = true → ltD d e = true → ltD e f = true → ltD d f = true
  | .i, d, e, f, h, h', h'', l1, l2 => by
    cases d <;> simp [hasSh] at h
    cases e <;> simp [hasSh] at h'
    cases f <;> simp [hasSh] at h''
    simp only [ltD, decide_eq_true_eq] at *; omega
  | .s, d, e, f, h, h', h'', l1, l2 => by
    cases d <;> simp [hasSh] at h
    cases e <;> simp [hasSh] at h'
    cases f <;> simp [hasSh] at h''
    simp only [ltD, decide_eq_true_eq] at *
    exact List.lt_trans l1 l2
  | .t l, d, e, f, h, h', h'', l1, l2 => by
    cases d <;> simp [hasSh] at h
    cases e <;> simp [hasSh] at h'
    cases f <;> simp [hasSh] at h''
    simp only [ltD] at *
    exact lts_trans' l _ _ _ h h' h'' l1 l2
theorem lts_trans' : ∀ (l : List Sh) (ds es fs : List D), hasShs l ds = true → hasShs l es = true → hasShs l fs = true → ltDs ds es = true → ltDs es fs = true → ltDs ds fs = true
  | [], [], [], [], _, _, _, l1, _ => by simp [ltDs] at l1
  | [], _ :: _, _, _, h, _, _, _, _ => by simp [hasShs] at h
  | [], [], _ :: _, _, _, h, _, _, _ => by simp [hasShs] at h
  | [], [], [], _ :: _, _, _, h, _, _ => by simp [hasShs] at h
  | _ :: _, [], _, _, h, _, _, _, _ => by simp [hasShs] at h
  | _ :: _, _ :: _, [], _, _, h, _, _, _ => by simp [hasShs] at h
  | _ :: _, _ :: _, _ :: _, [], _, _, h, _, _ => by simp [hasShs] at h
  | a :: l, d :: ds, e :: es, f :: fs, h, h', h'', l1, l2 => by
    simp only [hasShs, Bool.and_eq_true] at h h' h''
    have q1 := eqD_eq a d e h.1 h'.1
    have q2 := eqD_eq a e f h'.1 h''.1
    have q3 := eqD_eq a d f h.1 h''.1
    simp only [ltDs] at *
    by_cases e1 : d = e
    · subst e1
      rw [if_pos (q1.mpr rfl)] at l1
      by_cases e2 : d = f
      · subst e2
        rw [if_pos (q3.mpr rfl)] at l2 ⊢
        exact lts_trans' l ds es fs h.2 h'.2 h''.2 l1 l2
      · rw [if_neg fun z => e2 (q2.mp z)] at l2
        rw [if_neg fun z => e2 (q3.mp z)]
        exact l2
    · rw [if_neg fun z => e1 (q1.mp z)] at l1
      by_cases e2 : e = f
      · subst e2
        rw [if_neg fun z => e1 (q3.mp z)]
        exact l1
      · rw [if_neg fun z => e2 (q2.mp z)] at l2
        have t := lt_trans' a d e f h.1 h'.1 h''.1 l1 l2
        by_cases e3 : d = f
        · subst e3
          rw [lt_irr d] at t; cases t
        · rw [if_neg fun z => e3 (q3.mp z)]
          exact t
end
theorem lt_asy (a : Sh) (d e : D) (h : hasSh a d = true) (h' : hasSh a e = true) (l : ltD d e = true) : ltD e d = false := bfalse fun z => by
  have := lt_trans' a d e d h h' h l z
  rw [lt_irr d] at this; cases this
theorem lt_ntr (a : Sh) (d e f : D) (h : hasSh a d = true) (h' : hasSh a e = true) (h'' : hasSh a f = true) (l1 : ltD e d = false) (l2 : ltD f e = false) : ltD f d = false := bfalse fun z => by
  rcases lt_tri a d e h h' with q | q | q
  · have := lt_trans' a f d e h'' h h' z q
    rw [l2] at this; cases this
  · subst q; rw [l2] at z; cases z
  · rw [l1] at q; cases q

/-! ### sorted -/
theorem insD_perm (x : D) : ∀ l : List D, (insD x l).Perm (x :: l)
  | [] => .refl _
  | y :: l => by
    simp only [insD]
    split
    · exact ((insD_perm x l).cons y).trans (List.Perm.swap x y l)
    · exact .refl _
theorem sortD_perm : ∀ l : List D, (sortD l).Perm l
  | [] => .refl _
  | x :: l => (insD_perm x _).trans ((sortD_perm l).cons x)
abbrev SrtD (l : List D) : Prop := l.Pairwise fun x y => ltD y x = false
theorem insD_srt {a : Sh} {x : D} (hx : hasSh a x = true) : ∀ {l : List D}, (∀ y ∈ l, hasSh a y = true) → SrtD l → SrtD (insD x l)
  | [], _, _ => by simp [insD]
  | y :: l, h, s => by
    have hs := List.pairwise_cons.mp s
    simp only [insD]
    split
    · rename_i hlt
      refine List.pairwise_cons.mpr ⟨fun z hz => ?_, insD_srt hx (fun z hz => h z (List.mem_cons_of_mem _ hz)) hs.2⟩
      rcases List.mem_cons.mp ((insD_perm x l).mem_iff.mp hz) with rfl | hz
      · exact lt_asy a _ _ (h y (by simp)) hx hlt
      · exact hs.1 z hz
    · rename_i hlt
      have hlt := bfalse hlt
      refine List.pairwise_cons.mpr ⟨fun z hz => ?_, s⟩
      rcases List.mem_cons.mp hz with rfl | hz
      · exact hlt
      · exact lt_ntr a x y z hx (h y (by simp)) (h z (List.mem_cons_of_mem _ hz)) hlt (hs.1 z hz)
theorem sortD_srt {a : Sh} : ∀ {l : List D}, (∀ y ∈ l, hasSh a y = true) → SrtD (sortD l)
  | [], _ => List.Pairwise.nil
  | x :: l, h => insD_srt (h x (by simp)) (fun y hy => h y (List.mem_cons_of_mem _ ((sortD_perm l).mem_iff.mp hy))) (sortD_srt fun y hy => h y (List.mem_cons_of_mem _ hy))
theorem srtD_uniq {a : Sh} : ∀ {l m : List D}, (∀ y ∈ l, hasSh a y = true) → SrtD l → SrtD m → l.Perm m → l = m
  | [], m, _, _, _, p => (List.Perm.eq_nil p.symm).symm
  | x :: l, [], _, _, _, p => by have := p.length_eq; simp at this
  | x :: l, y :: m, h, s1, s2, p => by
    have h1 := List.pairwise_cons.mp s1
    have h2 := List.pairwise_cons.mp s2
    have hm : ∀ z ∈ y :: m, hasSh a z = true := fun z hz => h z (p.mem_iff.mpr hz)
    have e : x = y := by
      have q1 : ltD y x = false := by
        rcases List.mem_cons.mp (p.mem_iff.mpr (show y ∈ y :: m by simp)) with q | q
        · rw [q]; exact lt_irr x
        · exact h1.1 y q
      have q2 : ltD x y = false := by
        rcases List.mem_cons.mp (p.mem_iff.mp (show x ∈ x :: l by simp)) with q | q
        · rw [q]; exact lt_irr y
        · exact h2.1 x q
      rcases lt_tri a x y (h x (by simp)) (hm y (by simp)) with q | q | q
      · rw [q2] at q; cases q
      · exact q
      · rw [q1] at q; cases q
    subst e
    rw [srtD_uniq (fun z hz => h z (List.mem_cons_of_mem _ hz)) h1.2 h2.2 (List.Perm.cons_inv p)]

/-! ### sorted, as the machine does it -/
mutual
theorem alike_sh : ∀ (a : Sh) (d e : D), hasSh a d = true → hasSh a e = true → PySem.W.alike (pyD d) (pyD e) = true
  | .i, d, e, h, h' => by
    cases d <;> simp [hasSh] at h
    cases e <;> simp [hasSh] at h'
    simp [pyD, PySem.W.alike]
  | .s, d, e, h, h' => by
    cases d <;> simp [hasSh] at h
    cases e <;> simp [hasSh] at h'
    simp [pyD, PySem.W.alike]
  | .t l, d, e, h, h' => by
    cases d <;> simp [hasSh] at h
    cases e <;> simp [hasSh] at h'
    simp only [pyD, PySem.W.alike]
    exact alike_shs l _ _ h h'
theorem alike_shs : ∀ (l : List Sh) (ds es : List D), hasShs l ds = true → hasShs l es = true → PySem.W.alikeAll (pyDs ds) (pyDs es) = true
  | [], [], [], _, _ => rfl
  | [], _ :: _, _, h, _ => by simp [hasShs] at h
  | [], [], _ :: _, _, h => by simp [hasShs] at h
  | _ :: _, [], _, h, _ => by simp [hasShs] at h
  | _ :: _, _ :: _, [], _, h => by simp [hasShs] at h
  | a :: l, d :: ds, e :: es, h, h' => by
    simp only [hasShs, Bool.and_eq_true] at h h'
    simp only [pyDs, PySem.W.alikeAll, alike_sh a d e h.1 h'.1, alike_shs l ds es h.2 h'.2, Bool.and_self]
end
mutual
theorem dataLt_sh : ∀ (a : Sh) (d e : D), hasSh a d = true → hasSh a e = true → PySem.W.dataLt (pyD d) (pyD e) = ltD d e
  | .i, d, e, h, h' => by
    cases d <;> simp [hasSh] at h
    cases e <;> simp [hasSh] at h'
    simp only [pyD, ltD]; exact PySem.W.dataLt_int _ _
  | .s, d, e, h, h' => by
    cases d <;> simp [hasSh] at h
    cases e <;> simp [hasSh] at h'
    simp only [pyD, ltD]; exact PySem.W.dataLt_str _ _
  | .t l, d, e, h, h' => by
    cases d <;> simp [hasSh] at h
    cases e <;> simp [hasSh] at h'
    simp only [pyD, ltD]; rw [PySem.W.dataLt_tuple]; exact dataLt_shs l _ _ h h'
theorem dataLt_shs : ∀ (l : List Sh) (ds es : List D), hasShs l ds = true → hasShs l es = true → PyProof.Rows.lexLt PyProof.Rows.itemOrd (PySem.W.keyToksAll (pyDs ds)) (PySem.W.keyToksAll (pyDs es)) = ltDs ds es
  | [], [], [], _, _ => rfl
  | [], _ :: _, _, h, _ => by simp [hasShs] at h
  | [], [], _ :: _, _, h => by simp [hasShs] at h
  | _ :: _, [], _, h, _ => by simp [hasShs] at h
  | _ :: _, _ :: _, [], _, h => by simp [hasShs] at h
  | a :: l, d :: ds, e :: es, h, h' => by
    simp only [hasShs, Bool.and_eq_true] at h h'
    have al := alike_sh a d e h.1 h'.1
    have ev := eqv_eqD d e _ _ (dep_sh a d h.1) (dep_sh a e h'.1)
    simp only [pyDs, ltDs]
    cases q : eqD d e with
    | true => rw [if_pos rfl, PySem.W.dataLt_all_yes al (ev.trans q)]; exact dataLt_shs l ds es h.2 h'.2
    | false => rw [if_neg Bool.false_ne_true, PySem.W.dataLt_all_no al (ev.trans q)]; exact dataLt_sh a d e h.1 h'.1
end
mutual
theorem depth_sh : ∀ (a : Sh) (d : D), hasSh a d = true → (pyD d).depth = a.dep
  | .i, d, h => by cases d <;> simp [hasSh] at h; rfl
  | .s, d, h => by cases d <;> simp [hasSh] at h; rfl
  | .t l, d, h => by
    cases d <;> simp [hasSh] at h
    simp only [pyD, PyData.depth, depth_shs l _ h, Sh.dep]
theorem depth_shs : ∀ (l : List Sh) (ds : List D), hasShs l ds = true → PyData.depthAll (pyDs ds) = depSs l
  | [], [], _ => rfl
  | [], _ :: _, h => by simp [hasShs] at h
  | _ :: _, [], h => by simp [hasShs] at h
  | a :: l, d :: ds, h => by
    simp only [hasShs, Bool.and_eq_true] at h
    simp only [pyDs, PyData.depthAll, depth_sh a d h.1, depth_shs l ds h.2, depSs]
end
theorem sortable_sh {a : Sh} (ha : a.okT = true) {ds : List D} (h : ∀ d ∈ ds, hasSh a d = true) : PySem.W.Sortable (ds.map pyD) := by
  cases a with
  | i =>
    refine .inr fun d hd => ?_
    · obtain ⟨x, hx, rfl⟩ := List.mem_map.mp hd
      have := h x hx
      cases x <;> simp [hasSh] at this
      exact ⟨by simp [pyD], by simp [pyD]⟩
  | s =>
    refine .inr fun d hd => ?_
    · obtain ⟨x, hx, rfl⟩ := List.mem_map.mp hd
      have := h x hx
      cases x <;> simp [hasSh] at this
      exact ⟨by simp [pyD], by simp [pyD]⟩
  | t l =>
    refine .inl fun d hd => ?_
    · obtain ⟨x, hx, rfl⟩ := List.mem_map.mp hd
      have := h x hx
      cases x <;> simp [hasSh] at this
      rename_i xs
      cases l with
      | nil => simp [Sh.okT] at ha
      | cons b l =>
        cases xs with
        | nil => simp [hasShs] at this
        | cons y ys => exact ⟨pyD y, pyDs ys, by simp [pyD, pyDs]⟩
section
variable {X : Cx} {σ : St} {H : Hp}
/-- what stands for what -/
def Ech (F : Hp) (al : List Addr) (u : Value) (p : D × V) : Prop := RelV p.2 u ∧ Rp F al p.1 p.2
theorem ech_of {F : Hp} {al : List Addr} : ∀ {ds : List D} {xs : List V} {us : List Value}, Rps F al ds xs → Vals xs us → PySem.W.EachIs (Ech F al) us (ds.zip xs)
  | [], xs, us, h, r => by simp only [Rps] at h; subst h; cases r; exact .nil
  | d :: ds, xs, us, h, r => by
    simp only [Rps] at h
    obtain ⟨v, r', rfl, h1, h2⟩ := h
    cases r with
    | cons a t => exact .cons ⟨a, h1⟩ (ech_of h2 t)
theorem ech_back {F : Hp} {al : List Addr} {us : List Value} {ps : List (D × V)} (h : PySem.W.EachIs (Ech F al) us ps) : Rps F al (ps.map (·.1)) (ps.map (·.2)) ∧ Vals (ps.map (·.2)) us := by
  induction h with
  | nil => exact ⟨Rps.nil, .nil⟩
  | cons a t ih => exact ⟨Rps.cons a.2 ih.1, .cons a.1 ih.2⟩
theorem ech_reads {pins : List (Addr × Obj)} {s : Shared} {F : Hp} {al : List Addr} {a : Sh} (I : Inv X pins σ H s) (hs : Sub F H) {us : List Value} {ps : List (D × V)} (h : PySem.W.EachIs (Ech F al) us ps) (hp : ∀ p ∈ ps, hasSh a p.1 = true) :
    PySem.W.EachIs (fun v (p : D × V) => ∃ as, Reads s.heap v (pyD p.1) as) us ps := by
  induction h with
  | nil => exact .nil
  | cons q t ih =>
    refine .cons ?_ (ih fun p h => hp p (List.mem_cons_of_mem _ h))
    obtain ⟨p1, _, _⟩ := dp_of (K := X.K) hs _ _ _ q.2 (dep_sh a _ (hp _ (by simp)))
    exact Dp.reads I _ _ _ p1 q.1
theorem sort_out {a : Sh} {ds : List D} {xs : List V} (hl : xs.length = ds.length) (h : ∀ d ∈ ds, hasSh a d = true) : ((ds.zip xs).mergeSort (PySem.W.dataLe false fun p : D × V => pyD p.1)).map (·.1) = sortD ds := by
  have hz : (ds.zip xs).map (·.1) = ds := by rw [List.map_fst_zip]; omega
  have pm := List.mergeSort_perm (ds.zip xs) (PySem.W.dataLe false fun p : D × V => pyD p.1)
  have hmem : ∀ p ∈ (ds.zip xs).mergeSort (PySem.W.dataLe false fun p : D × V => pyD p.1), hasSh a p.1 = true := fun p hp => h _ (by
    have := pm.mem_iff.mp hp
    rw [← hz]; exact List.mem_map.mpr ⟨p, this, rfl⟩)
  have pw := PySem.W.sort_pairwise (PySem.W.sortLe_total (PyProof.Rows.listOrd PyProof.Rows.itemOrd) false fun p : D × V => PySem.W.keyToks (pyD p.1)) (ds.zip xs)
  refine srtD_uniq (a := a) (fun y hy => ?_) ?_ (sortD_srt h) ?_
  · obtain ⟨p, hp, rfl⟩ := List.mem_map.mp hy
    exact hmem p hp
  · refine List.pairwise_map.mpr ?_
    refine List.Pairwise.imp_of_mem (fun {p q} hp hq hle => ?_) pw
    have e : (!PySem.W.dataLt (pyD q.1) (pyD p.1)) = true := hle
    rw [dataLt_sh a _ _ (hmem q hq) (hmem p hp)] at e
    simpa using e
  · refine (pm.map _).trans ?_
    rw [hz]
    exact (sortD_perm ds).symm
def rSortD : List V → Hp → VK → Prop := fun vs H Q => ∃ (a : Addr) (xs : List V) (F : Hp) (al : List Addr) (ds : List D), vs = [.ref a] ∧ Rd H a (.lst xs) ∧ Sub F H ∧ Rps F al ds xs ∧ SortOk ds ∧ ∀ ys p, Rps F al (sortD ds) ys → H p = none → Q (.ref p) (upd H p (.lst ys))
theorem cr_sortD (hu : X.A.units + 64 < cLine) : CallR X (.builtin "sorted") rSortD := by
  rintro pins s σ H vs us Q I r ⟨a, xs, F, al, ds, rfl, hr, hs, hx, ⟨sh, h50, hT, hsh⟩, q⟩
  obtain ⟨u, rfl, ru⟩ := vals1 r
  cases ru
  obtain ⟨hz, its, n, rv, hl, e⟩ := Inv.rdl I hr
  have lx := Rps.length hx
  have zl : (ds.zip xs).length = ds.length := by rw [List.length_zip]; omega
  have zs : ∀ p ∈ ds.zip xs, hasSh sh p.1 = true := fun p hp => hsh _ (List.of_mem_zip hp).1
  have E := ech_of hx rv
  refine PySem.W.sorted_data (R := Ech F al) (enc := fun p : D × V => pyD p.1) (bs := ds.zip xs) (vs := its) ⟨_, e, rfl, n, rfl⟩ E (ech_reads I hs E zs) (fun d hd d' hd' => ?_) ?_ (by rw [zl]; omega) (fun p hp => ?_) fun out ho eo => ?_
  · obtain ⟨p, hp, rfl⟩ := List.mem_map.mp hd
    obtain ⟨p', hp', rfl⟩ := List.mem_map.mp hd'
    exact alike_sh sh _ _ (zs p hp) (zs p' hp')
  · have := sortable_sh hT (ds := (ds.zip xs).map (·.1)) (fun d hd => by
      obtain ⟨p, hp, rfl⟩ := List.mem_map.mp hd
      exact zs p hp)
    rwa [List.map_map] at this
  · have := depth_sh sh p.1 (zs p hp)
    rw [this]; omega
  · obtain ⟨o1, o2⟩ := ech_back eo
    rw [sort_out lx hsh] at o1
    obtain ⟨c, hc⟩ := PyProof.Rows.sortedAll_at s.heap its out.toArray
    generalize ((ds.zip xs).mergeSort (PySem.W.dataLe false fun p : D × V => pyD p.1)).map (·.2) = ys at o1 o2
    have yl : ys.length ≤ sizeLine := by rw [Rps.length o1, (sortD_perm ds).length_eq, ← lx]; exact hz
    exact ⟨.ref (s.heap.objs.size + 1), upd H (s.heap.objs.size + 1) (.lst ys), I.laid (t' := s.toks) (fun b u e => PyProof.Rows.sortedAll_old e) (Nat.le_succ _) (show ObjOk X.prog X.w _ _ _ (.lst ys) from ⟨yl, out, c, o2, hc⟩), rfl, q _ _ o1 (I.hok.fresh (Nat.le_succ _))⟩
/-- sorted(d): its keys -/
def rSortK : List V → Hp → VK → Prop := fun vs H Q => ∃ (a : Addr) (l : List (Key × V)), vs = [.ref a] ∧ Rd H a (.dK l) ∧ (∀ p ∈ l, kOk p.1) ∧ SortOk (l.map fun p => kD p.1) ∧ ∀ ys p, (∀ F al, Rps F al (sortD (l.map fun p => kD p.1)) ys) → H p = none → Q (.ref p) (upd H p (.lst ys))
theorem rp_key {F : Hp} {al : List Addr} {k : Key} (h : kOk k) : Rp F al (kD k) (kV k) := by
  cases k with
  | inl i => simp [kD, kV, Rp]
  | inr x => simp only [kD, kV, Rp]; exact ⟨trivial, h⟩
theorem rps_keys {F : Hp} {al : List Addr} : ∀ {l : List (Key × V)}, (∀ p ∈ l, kOk p.1) → Rps F al (l.map fun p => kD p.1) (l.map fun p => kV p.1)
  | [], _ => Rps.nil
  | p :: l, h => Rps.cons (rp_key (h p (by simp))) (rps_keys fun q hq => h q (List.mem_cons_of_mem _ hq))
theorem rps_free {F G : Hp} {al bl : List Addr} : ∀ {ds : List D} {vs : List V}, (∀ d ∈ ds, keyOk d = true) → Rps F al ds vs → Rps G bl ds vs
  | [], vs, _, h => by simpa [Rps] using h
  | d :: ds, vs, hk, h => by
    simp only [Rps] at h
    obtain ⟨v, r, rfl, h1, h2⟩ := h
    refine Rps.cons ?_ (rps_free (fun d hd => hk d (List.mem_cons_of_mem _ hd)) h2)
    have := hk d (by simp)
    cases d <;> simp [keyOk] at this <;> simpa [Rp] using h1
theorem keyOk_kd (k : Key) : keyOk (kD k) = true := by cases k <;> rfl
theorem cr_sortK (hc : X.calm = true) (hu : X.A.units + 64 < cLine) : CallR X (.builtin "sorted") rSortK := by
  rintro pins s σ H xs us Q I r ⟨a, kvs, rfl, hd, hok, ⟨sh, h50, hT, hsh⟩, q⟩
  obtain ⟨w0, rfl, r0⟩ := vals1 r; cases r0
  obtain ⟨z, ns, vs, kv0, dof⟩ := dk_rd I.hok hd; obtain ⟨ep, dat⟩ := dof.dictAt
  have lv : vs.length ≤ sizeLine := by rw [← kv0.length]; exact z
  have ek : (vs.map fun p => kV p.1) = kvs.map fun p => kV p.1 := by
    have := (congrArg (List.map kV) kv0.keys).symm
    simpa only [List.map_map, Function.comp_def] using this
  refine Calls.call_function_entry PyProof.Rows.kind_sorted PyProof.Rows.plain_sorted PyProof.Rows.entry_sorted
    (PyProof.Rows.args_sorted1 _) ?_
  unfold Builtin.«sorted»; refine wpAny_bind (m := checkCount "sorted" 1 1 _) (wpAny_pure (wpAny_bind ?_))
  refine PySem.W.kdu_collect (A := X.A.in1) (PySem.W.kdl_dict (knd := mixKind X.prog X.w) (kvs := vs) (ep := ep) ns) (I.ok.hd hc) dat lv fun hp tk acc hk hacc => ?_
  have hv : Vals (kvs.map fun p => kV p.1) acc.toList := by rw [← ek]; exact keys_at (by rw [Array.length_toList]; exact hacc.1) fun j v e => hacc.2 j v (by rw [← Array.getElem?_toList]; exact e)
  have acl : acc.toList.length = kvs.length := by rw [← hv.length, List.length_map]
  have I1 : Inv X pins σ H { s with heap := hp, toks := tk } := I.kept hk
  refine wpAny_bind (wpAny_newList ?_ (by rw [acl]; exact z))
  have nwl : (hp.push (PyProof.Rows.seqObj "list" acc.toList.toArray 0)).get? hp.objs.size = some (PyProof.Rows.seqObj "list" acc.toList.toArray 0) := Heap.get?_push_size _ rfl
  show wpAny _ _ _ _ _ { s with heap := hp.push (PyProof.Rows.seqObj "list" acc.toList.toArray 0), toks := tk }
  have hx : Rps H [] (kvs.map fun p => kD p.1) (kvs.map fun p => kV p.1) := rps_keys hok
  have E := ech_of hx hv
  have zs : ∀ p ∈ (kvs.map fun p => kD p.1).zip (kvs.map fun p => kV p.1), hasSh sh p.1 = true := fun p hp => hsh _ (List.of_mem_zip hp).1
  have ER : PySem.W.EachIs (fun v (p : D × V) => ∃ as, Reads (hp.push (PyProof.Rows.seqObj "list" acc.toList.toArray 0)) v (pyD p.1) as ∧ hp.objs.size ∉ as) acc.toList ((kvs.map fun p => kD p.1).zip (kvs.map fun p => kV p.1)) := by
    have : ∀ {us : List Value} {ps : List (D × V)}, PySem.W.EachIs (Ech H []) us ps → (∀ p ∈ ps, keyOk p.1 = true) → PySem.W.EachIs (fun v (p : D × V) => ∃ as, Reads (hp.push (PyProof.Rows.seqObj "list" acc.toList.toArray 0)) v (pyD p.1) as ∧ hp.objs.size ∉ as) us ps := by
      intro us ps h
      induction h with
      | nil => intro _; exact .nil
      | @cons u p us ps q t ih =>
        intro hp
        refine .cons ?_ (ih fun p h => hp p (List.mem_cons_of_mem _ h))
        obtain ⟨d, v⟩ := p
        obtain ⟨q1, q2⟩ := q
        have k := hp (d, v) (by simp)
        dsimp only at k q1 q2
        cases d <;> simp [keyOk] at k
        · simp only [Rp] at q2; subst q2; obtain ⟨t, rfl⟩ := q1
          exact ⟨[], Reads.int _ _, by simp⟩
        · simp only [Rp] at q2; obtain ⟨rfl, _⟩ := q2; obtain ⟨t, rfl⟩ := q1
          exact ⟨[], Reads.str _ _, by simp⟩
    refine this E fun p hp => ?_
    obtain ⟨x, _, hx⟩ := List.mem_map.mp (List.of_mem_zip hp).1
    rw [← hx]; exact keyOk_kd _
  have zl : ((kvs.map fun p => kD p.1).zip (kvs.map fun p => kV p.1)).length = kvs.length := by simp
  refine wpAny_bind (wpAny_holding (PySem.W.list_sort_data (s := { s with heap := hp.push (PyProof.Rows.seqObj "list" acc.toList.toArray 0), toks := tk }) (R := Ech H []) (enc := fun p : D × V => pyD p.1) nwl E ER (fun d hd d' hd' => ?_) ?_ (by rw [zl]; exact z) (fun p hp => ?_) fun out ho eo => ?_))
  · obtain ⟨p, hp, rfl⟩ := List.mem_map.mp hd
    obtain ⟨p', hp', rfl⟩ := List.mem_map.mp hd'
    exact alike_sh sh _ _ (zs p hp) (zs p' hp')
  · have := sortable_sh hT (ds := ((kvs.map fun p => kD p.1).zip (kvs.map fun p => kV p.1)).map (·.1)) (fun d hd => by
      obtain ⟨p, hp, rfl⟩ := List.mem_map.mp hd
      exact zs p hp)
    rwa [List.map_map] at this
  · have := depth_sh sh p.1 (zs p hp)
    rw [this]; show X.A.units + 1 + 1 + _ < _; omega
  · obtain ⟨o1, o2⟩ := ech_back eo
    rw [sort_out (by simp) hsh] at o1
    obtain ⟨c, hc2⟩ := PyProof.Rows.sortedHeap_at (vs := acc.toList) (out := out.toArray) nwl
    generalize (((kvs.map fun p => kD p.1).zip (kvs.map fun p => kV p.1)).mergeSort (PySem.W.dataLe false fun p : D × V => pyD p.1)).map (·.2) = ys at o1 o2
    have yl : ys.length ≤ sizeLine := by rw [Rps.length o1, (sortD_perm _).length_eq, List.length_map]; exact z
    refine wpAny_pure ⟨_, rfl, .ref hp.objs.size, upd H hp.objs.size (.lst ys), I1.laid (t' := tk) (fun b u e => ?_) (Nat.le_refl _)
      (show ObjOk X.prog X.w _ _ _ (.lst ys) from ⟨yl, out, c, o2, hc2⟩), rfl, q ys _ (fun F al => rps_free (fun d hd => ?_) o1) (I1.hok.fresh (Nat.le_refl _))⟩
    · have hb : b < hp.objs.size := Heap.lt_size e
      rw [PyProof.Rows.sortedHeap_old (Nat.ne_of_lt hb) (by rw [PyProof.Rows.size_push']; exact Nat.lt_succ_of_lt hb)]
      exact Heap.get?_push_of_some _ e
    · obtain ⟨x, _, hx⟩ := List.mem_map.mp ((sortD_perm _).mem_iff.mp hd)
      rw [← hx]; exact keyOk_kd _
end
end Vi

set_option maxHeartbeats 1000000
namespace RT
open PySem PySem.Spec PyProof.Rows L2
section
variable {prog : Program} {w : World} {A : Around} {E : Value → Shared → Prop} {s : Shared}
theorem extend_rev {it l S : Addr} {items : Array Value} {c₀ : Nat} {R : Result → Shared → Prop} (hh : A.handled = none) (res : Value) (hit : s.heap.IsRevIter it l ((items.size : Int) - 1)) (hl : s.heap.IsList l items) (hne : l ≠ it) (hn : items.size ≤ sizeLine) (hSi : S ≠ it) (hSl : S ≠ l)
    (hS : s.heap.get? S = some { cls := .type "list", data := .seq #[] c₀ })
    (hR : ∀ (h' : Heap) (tk : Nat) (acc' : Array Value) (c' : Nat), (∀ b o, b ≠ it → b ≠ S → s.heap.get? b = some o → h'.get? b = some o) → h'.get? S = some { cls := .type "list", dict := none, data := .seq acc' c', slots := #[] } → ItemsOf (fun i v => items[items.size - 1 - i]? = some v) acc' items.size → R (.ok (.ret res)) { s with heap := h', toks := tk }) :
    wpAny (model prog w) A.in1 (Builtin.List.listExtendWith (.ref S) (.ref it) res)
      (fun fin s' => match fin with | .done f => R (.ok f) s' | .again c' => c'.quiet = true ∧ codeAny (model prog w) A c' R s') (fun e s' => R (.error e) s') s := by
  have W := (Walks.listRev (prog := prog) (w := w) (A := A.in1) hh it l hne items).toS
  have hSf : S ∉ [it, l] := by simp only [List.mem_cons, List.not_mem_nil, or_false, not_or]; exact ⟨hSi, hSl⟩
  have hT : s.TypeIs (.ref it) "list_reverseiterator" := hit.typeIs
  have h1 : Builtin.List.listSameRef (.ref S) (.ref it) = false := by simp [Builtin.List.listSameRef, hSi]
  unfold Builtin.List.listExtendWith
  refine wpAny_bind (wpAny_typeOf hT ?_)
  rw [if_neg (by rw [h1]; decide)]
  refine wpAny_bind (wpAny_pyIter_revIter hit ?_)
  refine wpAny_bind (wpAny_holding ?_)
  unfold Builtin.List.listLengthHint
  refine wpAny_bind (wpAny_specialOf hT nolen_lri ?_)
  show wpAny _ A.in1 (specialOf (Value.ref it) (Str.ofString "__length_hint__") >>= _) _ _ _
  refine wpAny_bind (wpAny_specialOf hT hint_lri ?_)
  generalize hid : ("list_reverseiterator.__length_hint__" : String) = id0
  wp_delta
  rw [show splitId id0 = some ("list_reverseiterator", "__length_hint__") from by subst hid; decide +kernel]
  subst hid
  refine wpAny_bind (wpAny_isInstance (b := true) hT (by rw [isSubtype_type]; kernel_rfl) ?_)
  refine wpAny_pure ?_
  rw [if_neg (by decide)]
  have e0 : ((items.size : Nat) : Int) - 1 - ((0 : Nat) : Int) = (items.size : Int) - 1 := by omega
  refine wpAny_pure ⟨plainId_quiet F.plain_extend_loop _, codeAny_extend_loopS W hn _ hSf _ items.size 0 _ _ _ rfl (Nat.zero_le _) ⟨Nat.zero_le _, by rw [e0]; exact hit, hl⟩ hS (ItemsOf.nil _) fun s' acc' c' hm hS' hacc => ?_⟩
  rw [Moved.eq_with hm]
  refine hR s'.heap s'.toks acc' c' (fun b o hb hb2 e => hm.heap b o (fun hmem => ?_) e) hS' hacc
  rcases List.mem_cons.mp hmem with e' | hmem
  · exact hb2 e'
  · exact hb (List.mem_singleton.mp hmem)
theorem list_init_rev {it l S : Addr} {items : Array Value} {R : Result → Shared → Prop} (hh : A.handled = none) (hit : s.heap.IsRevIter it l ((items.size : Int) - 1)) (hl : s.heap.IsList l items) (hne : l ≠ it) (hn : items.size ≤ sizeLine) (hSi : S ≠ it) (hSl : S ≠ l)
    (hS : s.heap.get? S = some { cls := .type "list", data := .seq #[] })
    (hR : ∀ (h' : Heap) (tk : Nat) (acc' : Array Value) (c' : Nat), (∀ b o, b ≠ it → b ≠ S → s.heap.get? b = some o → h'.get? b = some o) → h'.get? S = some { cls := .type "list", dict := none, data := .seq acc' c', slots := #[] } → ItemsOf (fun i v => items[items.size - 1 - i]? = some v) acc' items.size → R (.ok (.ret .none)) { s with heap := h', toks := tk }) :
    wpAny (model prog w) A.in1 (Builtin.«list.__init__» ⟨[.ref S, .ref it], []⟩)
      (fun fin s' => match fin with | .done f => R (.ok f) s' | .again c' => c'.quiet = true ∧ codeAny (model prog w) A c' R s') (fun e s' => R (.error e) s') s := by
  show wpAny _ A.in1 (do let old ← Builtin.List.listItems (.ref S); Builtin.List.listUpdate (.ref S) (fun _ => #[]); letGo old.toList.reverse; Builtin.List.listExtendWith (.ref S) (.ref it) .none) _ _ s
  refine wpAny_bind ?_
  unfold Builtin.List.listItems
  refine wpAny_bind (wpAny_seqItems hS rfl (wpAny_pure ?_))
  show wpAny _ A.in1 (updateSeq S (fun _ => #[]) >>= fun _ => letGo (#[] : Array Value).toList.reverse >>= fun _ => Builtin.List.listExtendWith (.ref S) (.ref it) .none) _ _ s
  refine wpAny_bind (wpAny_updateSeq hS rfl ?_)
  have hS₂ := Heap.get?_update_self (Obj.mapSeq (fun _ => (#[] : Array Value))) hS rfl
  have oth : ∀ b o, b ≠ S → s.heap.get? b = some o → (s.heap.update S (Obj.mapSeq (fun _ => (#[] : Array Value)))).get? b = some o :=
    fun b o hb e => (Heap.get?_update_other _ _ (Ne.symm hb)).trans e
  refine wpAny_bind (wpAny_letGo ?_)
  have hit2 : (s.heap.update S (Obj.mapSeq (fun _ => (#[] : Array Value)))).IsRevIter it l ((items.size : Int) - 1) := hit.at fun o e => oth it o (Ne.symm hSi) e
  have hl2 : (s.heap.update S (Obj.mapSeq (fun _ => (#[] : Array Value)))).IsList l items := by
    obtain ⟨o, ho, r⟩ := hl
    exact ⟨o, oth l o (Ne.symm hSl) ho, r⟩
  refine extend_rev (s := { s with heap := s.heap.update S (Obj.mapSeq (fun _ => (#[] : Array Value))) }) hh .none hit2 hl2 hne hn hSi hSl hS₂ fun h' tk acc' c' hk hS' hacc => ?_
  exact hR h' tk acc' c' (fun b o hb hb2 e => hk b o hb hb2 (oth b o hb2 e)) hS' hacc
theorem call_list_rev {it l : Addr} {items : Array Value} {Q : Value → Shared → Prop} (hh : A.handled = none) (hit : s.heap.IsRevIter it l ((items.size : Int) - 1)) (hl : s.heap.IsList l items) (hne : l ≠ it) (hn : items.size ≤ sizeLine)
    (hQ : ∀ (h' : Heap) (tk : Nat) (acc : Array Value) (c : Nat), (∀ b o, b ≠ it → b ≠ s.heap.objs.size → s.heap.get? b = some o → h'.get? b = some o) → h'.get? s.heap.objs.size = some { cls := .type "list", dict := none, data := .seq acc c, slots := #[] } → ItemsOf (fun i v => items[items.size - 1 - i]? = some v) acc items.size →
      Q (.ref s.heap.objs.size) { s with heap := h', toks := tk }) :
    wpAny (model prog w) A (call (.type "list") [.ref it]) Q E s := by
  obtain ⟨oi, hoi, _⟩ := id hit
  obtain ⟨ol, hol, _⟩ := id hl
  have hSi : s.heap.objs.size ≠ it := Nat.ne_of_gt (Heap.lt_size hoi)
  have hSl : s.heap.objs.size ≠ l := Nat.ne_of_gt (Heap.lt_size hol)
  refine callType_codes (Q₁ := fun obj s₁ => obj = .ref s.heap.objs.size ∧ s₁ = { s with heap := s.heap.push { cls := .type "list", data := .seq #[] } }) F.called_list (F.typeCall_list_1 _) F.entry_list_init
    (code_list_new _ ⟨rfl, rfl⟩) fun obj s₁ h₁ => ?_
  obtain ⟨rfl, rfl⟩ := h₁
  have hS : (s.heap.push { cls := .type "list", data := .seq #[] }).get? s.heap.objs.size = some { cls := .type "list", data := .seq #[] } := Heap.get?_push_size _ rfl
  refine ⟨⟨_, hS, rfl⟩, F.args_list_init_2 _ _, list_init_rev (s := { s with heap := s.heap.push { cls := .type "list", data := .seq #[] } }) hh (hit.at fun o e => Heap.get?_push_of_some _ e) (hl.push _) hne hn hSi hSl hS fun h' tk acc c hk hS' hacc => ?_⟩
  exact ⟨rfl, hQ h' tk acc c (fun b o hb hb2 e => hk b o hb hb2 (Heap.get?_push_of_some _ e)) hS' hacc⟩
end
section
variable {X : Cx}
theorem pe_listRev {e : Expr} {te : TE} {p p2 pos pos2 : Pos} (hc : X.calm = true) (hg : Gl X "list") (hm : X.mg "list" = none) (hg2 : Gl X "reversed") (hm2 : X.mg "reversed" = none) (he : PE X e te)
    (hs : starEach [e] X.env = (false, eval e X.env) :: starEach [] X.env := by rfl)
    (hs2 : starEach [.Call (.Name "reversed" p2) [e] [] pos2] X.env = (false, eval (.Call (.Name "reversed" p2) [e] [] pos2) X.env) :: starEach [] X.env := by rfl) :
    PE X (.Call (.Name "list" p) [.Call (.Name "reversed" p2) [e] [] pos2] [] pos) (tRevL X.K te) := by
  refine ⟨fun pins s σ H Q I h => ?_⟩
  refine Call_ (ld_blt I hg hm boot_list (PyProof.Rows.callWith_type1 (args_cons (Call_ (ld_blt I hg2 hm2 PyProof.Rows.boot_reversed (PyProof.Rows.callWith_type1 (args_cons (thn (he.run pins s σ H _ I h) fun u s1 ⟨v, H1, I1, r1, q1⟩ => args_nil ?_) hs) hs rfl))) hs2) hs2 rfl))
  obtain ⟨a, xs, ev, hq, q⟩ := q1
  subst ev
  obtain rfl : u = Value.ref a := r1
  obtain ⟨its, rv, p', hz⟩ := I1.list hq
  refine call_reversed_list p'.isList (args_nil ?_)
  have k0 : ∀ b o, s1.heap.get? b = some o → (s1.heap.push (revObj a ((its.toArray.size : Int) - 1))).get? b = some o := fun b o e => Heap.get?_push_of_some _ e
  have I2 : Inv X pins σ H1 { s1 with heap := s1.heap.push (revObj a ((its.toArray.size : Int) - 1)) } := I1.kept (t' := s1.toks) k0
  have f := I1.fpOk (H' := H1) (b := s1.heap.objs.size) (Nat.le_refl _) (I1.hok.fresh (Nat.le_refl _))
  have hl := p'.isList
  obtain ⟨ol, hol, _⟩ := id hl
  have hne : a ≠ s1.heap.objs.size := Nat.ne_of_lt (Heap.lt_size hol)
  have hn : its.toArray.size ≤ sizeLine := by rw [List.size_toArray, ← rv.length]; exact hz
  refine call_list_rev (s := { s1 with heap := s1.heap.push (revObj a ((its.toArray.size : Int) - 1)) }) (I1.ok.hd hc) ⟨_, Heap.get?_push_size _ rfl, rfl, rfl⟩ (hl.push _) hne hn fun h' tk acc c hk hS hi => ?_
  refine ⟨.ref _, _, I2.turnedNew (t' := tk) (ch := [s1.heap.objs.size]) (ob := .lst xs.reverse) (fun b o hb e => hk b o (fun z => hb (by simp [z])) (Nat.ne_of_lt (Heap.lt_size e)) e) (fun b hb => by
    have z : b = s1.heap.objs.size := by simpa using hb
    rw [z]; exact f) (Nat.le_refl _) ?_, rfl, q _ (I2.hok.fresh (Nat.le_refl _))⟩
  exact ⟨by rw [List.length_reverse]; exact hz, acc.toList, c, vals_rev rv hi, by rw [Array.toArray_toList]; exact hS⟩
end
end RT

namespace Vi
open PySem L2

section
variable {w : Wd} {xr : Nat → Option Addr → V → Prop} {X : Cx} {W : WX} {b : Bs} {g g2 : Gh} {z z2 : Z} {σ : St} {H H2 : Hp}

theorem s_rev {cf : CF} {ea : Expr} {ia : E} {k0 : Nat} {p1 p2 p3 pos : Pos} (ha : SndB w xr X W ea fun z => fst1 (evalE cf ia z)) :
    SndE w xr X W (.Subscript ea (.Slice none none (some (.UnaryOp .USub (.Constant (.int 1) k0 p1) p2)) p3) pos) (evalE cf (.rev ia)) := by
  have : SndE w xr X W (.Subscript ea (.Slice none none (some (.UnaryOp .USub (.Constant (.int 1) k0 p1) p2)) p3) pos) _ := s_one (w := w) (xr := xr) (W := W) (P := PE X (.Subscript ea (.Slice none none (some (.UnaryOp .USub (.Constant (.int 1) k0 p1) p2)) p3) pos))
    (r := fun x H Q => ∃ a xs, x = .ref a ∧ SqL X.K H a xs ∧ ∀ p, H p = none → Q (.ref p) (upd H p (.lst xs.reverse))) (G := fun z x => ofT z ((rdL z.os x).map fun ds => (.lst ds.reverse, true))) ha (fun ta pa => pe_revL pa) ?_
  · simpa only [evalE] using this
  · intro b g z σ H Q x vx S rx k
    cases h : rdL z.os x with
    | none => rw [h] at k; exact k.elim
    | some ds =>
      rw [h] at k
      obtain ⟨a, vs, rfl, r1, r2⟩ := rdL_of S rx h
      exact ⟨a, vs, rfl, .inl r1, fun p hp => PostE.new S hp rfl (cel_lst (Rps.reverse r2)) k⟩

theorem s_revC {cf : CF} {ea : Expr} {ia : E} {p p2 pos pos2 : Pos} (hc : X.calm = true) (hg : Gl X "list") (hm : X.mg "list" = none) (hg2 : Gl X "reversed") (hm2 : X.mg "reversed" = none)
    (hs : starEach [ea] X.env = (false, eval ea X.env) :: starEach [] X.env) (ha : SndB w xr X W ea fun z => fst1 (evalE cf ia z)) :
    SndE w xr X W (.Call (.Name "list" p) [.Call (.Name "reversed" p2) [ea] [] pos2] [] pos) (evalE cf (.rev ia)) := by
  have : SndE w xr X W (.Call (.Name "list" p) [.Call (.Name "reversed" p2) [ea] [] pos2] [] pos) _ := s_one (w := w) (xr := xr) (W := W) (P := PE X (.Call (.Name "list" p) [.Call (.Name "reversed" p2) [ea] [] pos2] [] pos))
    (r := fun x H Q => ∃ a xs, x = .ref a ∧ SqL X.K H a xs ∧ ∀ p, H p = none → Q (.ref p) (upd H p (.lst xs.reverse))) (G := fun z x => ofT z ((rdL z.os x).map fun ds => (.lst ds.reverse, true))) ha (fun ta pa => RT.pe_listRev hc hg hm hg2 hm2 pa hs) ?_
  · simpa only [evalE] using this
  · intro b g z σ H Q x vx S rx k
    cases h : rdL z.os x with
    | none => rw [h] at k; exact k.elim
    | some ds =>
      rw [h] at k
      obtain ⟨a, vs, rfl, r1, r2⟩ := rdL_of S rx h
      exact ⟨a, vs, rfl, .inl r1, fun p hp => PostE.new S hp rfl (cel_lst (Rps.reverse r2)) k⟩

/-! ### a box of one's own list -/
theorem Paired.len {α β : Type} {P : α → β → Prop} : ∀ {xs : List α} {ys : List β}, Paired P xs ys → xs.length = ys.length
  | _, _, .nil => rfl
  | _, _, .cons a t => by rw [List.length_cons, List.length_cons, Paired.len t]
/-- one's own list goes into a new box -/
theorem Sim.boxed (S : Sim w xr b g z σ H) {d : D} {p : Addr} {bx : Bx} (ow : Own w b g H d p) (off : Off z σ p) (hb : BxRel w.cad b.lk g.F g.al H bx p) :
    Sim w xr b ⟨g.F, g.al ++ [p]⟩ { z with os := z.os ++ [bx] } σ H := by
  have pr : Pre g.al (g.al ++ [p]) := ⟨[p], rfl⟩
  refine ⟨S.sub, S.new, S.kept, S.pF, S.pre.trans pr, fun a ha => ?_, fun a ha => ?_, ?_, ?_, S.len, S.ln, fun i e he => ?_, S.dis, fun a ha => ?_⟩
  · rcases List.mem_append.mp ha with h | h
    · exact S.alnew a h
    · rw [List.mem_singleton.mp h]; exact .inr ow.nH
  · rcases List.mem_append.mp ha with h | h
    · exact S.alF a h
    · rw [List.mem_singleton.mp h]; exact ow.nF
  · refine List.nodup_append.mpr ⟨S.nd, by simp, fun a ha c hc => ?_⟩
    rw [List.mem_singleton.mp hc]
    exact fun q => ow.nB (q ▸ ha)
  · exact Paired.app (Paired.imp (fun x a q => q.mono (.refl _) pr fun _ q => q) S.box) (.cons (hb.mono (.refl _) pr fun _ q => q) .nil)
  · have q := S.ent i e he
    cases e with
    | no => trivial
    | ex c x => exact q
    | bor d => exact q
    | val d' fr =>
      obtain ⟨v, e1, e2⟩ := q
      refine ⟨v, e1, ?_⟩
      unfold ValRel at e2 ⊢
      split
      · rename_i hc
        rw [if_pos hc] at e2
        obtain ⟨a, rfl, o⟩ := e2
        have hne : a ≠ p := fun q => off i _ he hc (by unfold sad; rw [e1, q])
        refine ⟨a, rfl, ⟨o.nF, fun q => ?_, o.nH, o.nR, o.cl.mono (.refl _) pr fun _ q => q⟩⟩
        rcases List.mem_append.mp q with h | h
        · exact o.nB h
        · exact hne (List.mem_singleton.mp h)
      · rename_i hc
        rw [if_neg hc] at e2
        exact Rp.mono (.refl _) pr _ _ e2
  · obtain ⟨h1, h2, h3⟩ := S.rs a ha
    refine ⟨h1, fun q => ?_, h3⟩
    rcases List.mem_append.mp q with h | h
    · exact h2 h
    · exact ow.nR (by rw [← List.mem_singleton.mp h]; exact ha)
theorem box_post {b : Bs} {g : Gh} {σ : St} {H : Hp} {Q : VK} {r : R Z (D × Bool)} (k : PostE w xr W b g σ H Q (r.bind fun a z => boxZ z a)) : PostE w xr W b g σ H Q r := by
  cases r with
  | stuck => exact k
  | exc c x z' => exact k
  | ok a z1 =>
    simp only [R.bind_ok] at k
    intro g1 v H1 st1 S1 tm
    have main : ∀ (bx : Bx) (d : D), a = (d, true) → d.cell = true → (∀ p, Cel g1.F g1.al H1 p d → BxRel w.cad b.lk g1.F g1.al H1 bx p) → PostE w xr W b g σ H Q (.ok (.box z1.os.length, false) { z1 with os := z1.os ++ [bx] }) → Q v H1 := by
      intro bx d ea hd hbx k'
      subst ea
      unfold Tmp at tm
      rw [if_pos (by simp [hd])] at tm
      obtain ⟨p, rfl, ow, off, hn⟩ := tm
      have S2 := S1.boxed ow off (hbx p ow.cl)
      refine k' ⟨g1.F, g1.al ++ [p]⟩ (.ref p) H1 ⟨st1.F, st1.al.trans ⟨[p], rfl⟩, fun a ha => ?_, st1.keep⟩ S2 (Tmp.frozen ?_)
      · rcases List.mem_append.mp ha with h | h
        · exact st1.alnew a h
        · rw [List.mem_singleton.mp h]; exact .inr hn
      · simp only [Rp]
        refine ⟨p, ?_, rfl⟩
        have := Paired.len S1.box
        rw [List.getElem?_append_right (by omega), this]
        simp
    unfold boxZ at k
    split at k
    · exact main _ _ rfl rfl (fun _ c => by obtain ⟨vs, h1, h2⟩ := c; exact ⟨vs, h1, h2⟩) k
    · exact main _ _ rfl rfl (fun _ c => by rcases c with c | c; exact .inl c; exact .inr c) k
    · exact k.elim

theorem s_box {cf : CF} {e : Expr} {i : E} (h : SndE w xr X W e (evalE cf i)) : SndE w xr X W e (evalE cf (.box i)) := by
  obtain ⟨t, p, q⟩ := h
  refine ⟨t, p, fun b g z σ H Q S k => q b g z σ H Q S ?_⟩
  simp only [evalE] at k
  exact box_post k

/-! ### fields -/
theorem Rfs.look {F : Hp} {al : List Addr} {f : Str} : ∀ {fs : List (Str × D)} {fv : List (Str × V)}, Rfs F al fs fv → ∀ {d : D}, fs.lookup f = some d → ∃ v, fv.lookup f = some v ∧ Rp F al d v
  | _, _, .nil, d, h => by cases h
  | (n, d0) :: fs, (m, v0) :: fv, .cons a t, d, h => by
    obtain ⟨h1, h2⟩ := a
    simp only at h1
    subst h1
    rw [List.lookup_cons] at h ⊢
    by_cases e : f = n
    · subst e
      simp only [beq_self_eq_true] at h ⊢
      cases h
      exact ⟨v0, rfl, h2⟩
    · have e' : (f == n) = false := by simpa using e
      rw [e'] at h ⊢
      exact Rfs.look t h

/-! ### built-in functions -/
theorem intsO_of {F : Hp} {al : List Addr} : ∀ {ds : List D} {vs : List V} {is : List Int}, Rps F al ds vs → intsO ds = some is → vs = is.map V.int
  | [], vs, is, h, e => by simp only [Rps] at h; simp only [intsO] at e; cases e; subst h; rfl
  | d :: ds, vs, is, h, e => by
    simp only [Rps] at h
    obtain ⟨v, r, rfl, h1, h2⟩ := h
    cases d with
    | int i =>
      simp only [intsO, Option.map_eq_some_iff] at e
      obtain ⟨js, e1, rfl⟩ := e
      simp only [Rp] at h1
      subst h1
      rw [List.map_cons, intsO_of h2 e1]
    | _ => simp [intsO] at e
theorem fold_max : ∀ (l : List Int) (i : Int), (l.foldl (fun a b => if b > a then b else a) i = i ∨ l.foldl (fun a b => if b > a then b else a) i ∈ l) ∧ i ≤ l.foldl (fun a b => if b > a then b else a) i ∧ ∀ y ∈ l, y ≤ l.foldl (fun a b => if b > a then b else a) i
  | [], i => ⟨.inl rfl, Int.le_refl _, fun _ h => by cases h⟩
  | x :: l, i => by
    obtain ⟨h1, h2, h3⟩ := fold_max l (if x > i then x else i)
    rw [List.foldl_cons]
    refine ⟨?_, ?_, fun y hy => ?_⟩
    · rcases h1 with h1 | h1
      · rw [h1]; split
        · exact .inr (by simp)
        · exact .inl rfl
      · exact .inr (List.mem_cons_of_mem _ h1)
    · refine Int.le_trans ?_ h2
      split <;> omega
    · rcases List.mem_cons.mp hy with rfl | hy
      · refine Int.le_trans ?_ h2
        split <;> omega
      · exact h3 y hy
theorem fold_min : ∀ (l : List Int) (i : Int), (l.foldl (fun a b => if b < a then b else a) i = i ∨ l.foldl (fun a b => if b < a then b else a) i ∈ l) ∧ l.foldl (fun a b => if b < a then b else a) i ≤ i ∧ ∀ y ∈ l, l.foldl (fun a b => if b < a then b else a) i ≤ y
  | [], i => ⟨.inl rfl, Int.le_refl _, fun _ h => by cases h⟩
  | x :: l, i => by
    obtain ⟨h1, h2, h3⟩ := fold_min l (if x < i then x else i)
    rw [List.foldl_cons]
    refine ⟨?_, ?_, fun y hy => ?_⟩
    · rcases h1 with h1 | h1
      · rw [h1]; split
        · exact .inr (by simp)
        · exact .inl rfl
      · exact .inr (List.mem_cons_of_mem _ h1)
    · refine Int.le_trans h2 ?_
      split <;> omega
    · rcases List.mem_cons.mp hy with rfl | hy
      · refine Int.le_trans h2 ?_
        split <;> omega
      · exact h3 y hy
/-- its name, what it is -/
def fnName : Fn → Str
  | .len => "len"
  | .abs => "abs"
  | .int => "int"
  | .str => "str"
  | .list => "list"
  | .tuple => "tuple"
  | .sorted => "sorted"
  | .sum => "sum"
  | .min => "min"
  | .max => "max"
  | .sset => "set"
  | .dict => "dict"
def fnVal : Fn → Value
  | .len => .builtin "len"
  | .abs => .builtin "abs"
  | .int => .type "int"
  | .str => .type "str"
  | .list => .type "list"
  | .tuple => .type "tuple"
  | .sorted => .builtin "sorted"
  | .sum => .builtin "sum"
  | .min => .builtin "min"
  | .max => .builtin "max"
  | .sset => .type "set"
  | .dict => .type "dict"
theorem fn_boot : ∀ f : Fn, bootBuiltins (fnName f) = some (fnVal f)
  | .len => by decide +kernel
  | .abs => by decide +kernel
  | .int => by decide +kernel
  | .str => by decide +kernel
  | .list => by decide +kernel
  | .tuple => by decide +kernel
  | .sorted => by decide +kernel
  | .sum => by decide +kernel
  | .min => by decide +kernel
  | .max => by decide +kernel
  | .sset => by decide +kernel
  | .dict => by decide +kernel
theorem strOk_ofString (s : String) : PyData.strOk (Str.ofString s) = true := by
  rw [Str.ofString_eq_toList]
  unfold PyData.strOk
  rw [Array.all_eq_true']
  intro x hx
  simp only [List.mem_toArray, List.mem_map] at hx
  obtain ⟨c, _, rfl⟩ := hx
  have := c.valid
  simp only [decide_eq_true_eq]
  rcases this with h | h
  · have : c.val.toNat < 0xd800 := h
    show c.val.toNat < _
    omega
  · exact h.2
theorem strOk_int (i : Int) : PyData.strOk (Str.ofString (toString i)) = true := strOk_ofString _
abbrev RA := List V → Hp → VK → Prop
def orA (r r' : RA) : RA := fun xs H Q => r xs H Q ∨ r' xs H Q
def rLen (K : PySem.W.Frag) : RA := fun xs H Q => ∃ x n, xs = [x] ∧ LenV K x H n ∧ Q (.int n) H
def rLenD : RA := fun xs H Q => ∃ a kvs, xs = [V.ref a] ∧ Rd H a (.dK kvs) ∧ Q (.int kvs.length) H
def rAbs : RA := fun xs H Q => ∃ i, xs = [.int i] ∧ Q (.int (if i < 0 then -i else i)) H
def rMax2 : RA := fun xs H Q => ∃ i j, xs = [.int i, .int j] ∧ Q (.int (if j > i then j else i)) H
def rMin2 : RA := fun xs H Q => ∃ i j, xs = [.int i, .int j] ∧ Q (.int (if j < i then j else i)) H
def rInt1 : RA := fun xs H Q => (∃ i, xs = [.int i] ∧ Q (.int i) H) ∨ ∃ k, xs = [.bl k] ∧ Q (.int (if k then 1 else 0)) H
def rListOf (K : PySem.W.Frag) : RA := fun xs H Q => ∃ p ys, xs = [.ref p] ∧ (SqL K H p ys ∨ SqT K H p ys) ∧ ∀ l, H l = none → Q (.ref l) (upd H l (.lst ys))
def rListK : RA := fun xs H Q => ∃ (a : Addr) (l : List (Key × V)), xs = [.ref a] ∧ Rd H a (.dK l) ∧ ∀ p, H p = none → Q (.ref p) (upd H p (.lst (l.map fun kv => kV kv.1)))
def rTupOf (K : PySem.W.Frag) : RA := fun xs H Q => ∃ p ys, xs = [.ref p] ∧ ((SqL K H p ys ∧ ∀ l, H l = none → Q (.ref l) (upd H l (.tup ys))) ∨ (SqT K H p ys ∧ Q (.ref p) H))
theorem len_dict {X : Cx} : CallR X (.builtin "len") rLenD := by
  rintro pins s σ H xs us Q I r ⟨a, l, rfl, hd, q⟩
  obtain ⟨w0, rfl, r0⟩ := vals1 r; cases r0
  exact d_len I hd fun t s' I' => ⟨.int _, H, I', ⟨t, rfl⟩, q⟩
def rIntS : RA := fun xs H Q => ∃ a n, xs = [.str a] ∧ PySem.intText? a = some n ∧ a.length ≤ 640 ∧ Q (.int n) H
def rStrI : RA := fun xs H Q => ∃ i, xs = [.int i] ∧ i.natAbs.log2 < 1920 ∧ Q (.str (toString i)) H
def rStrS : RA := fun xs H Q => ∃ a, xs = [.str a] ∧ Q (.str a) H
def rFn (K : PySem.W.Frag) : Fn → RA
  | .len => orA (rLen K) rLenD
  | .abs => rAbs
  | .int => orA rInt1 rIntS
  | .str => orA rStrI rStrS
  | .list => orA (rListOf K) rListK
  | .tuple => rTupOf K
  | .sorted => orA rSortD rSortK
  | .min => orA rMin2 (rMin K)
  | .max => orA rMax2 (rMax K)
  | .sum => rSum K
  | _ => fun _ _ _ => False
theorem fn_call (hc : X.calm = true) (hu : X.A.units + 64 < cLine) : ∀ f : Fn, CallR X (fnVal f) (rFn X.K f)
  | .len => call_len.or len_dict
  | .abs => call_abs
  | .int => call_int1.or call_int_str
  | .list => call_list_of.or (call_listD hc)
  | .min => (call_min2 hc).or (cr_min hc)
  | .max => (call_max2 hc).or (cr_max hc)
  | .sum => cr_sum hc
  | .str => call_str_int.or SkE.call_str_str
  | .tuple => call_tuple_of
  | .sorted => (cr_sortD hu).or (cr_sortK hc hu)
  | .sset => fun _ _ _ _ _ _ _ _ _ h => h.elim
  | .dict => fun _ _ _ _ _ _ _ _ _ h => h.elim
theorem rbs1 {d : D} {vs : List V} (h : Rbs w g H [d] vs) : ∃ v, vs = [v] ∧ Rb w g H d v := by
  obtain ⟨v, r, rfl, h1, h2⟩ := h
  cases h2
  exact ⟨v, rfl, h1⟩
theorem rbs2 {d e : D} {vs : List V} (h : Rbs w g H [d, e] vs) : ∃ v u, vs = [v, u] ∧ Rb w g H d v ∧ Rb w g H e u := by
  obtain ⟨v, r, rfl, h1, h2⟩ := h
  obtain ⟨u, rfl, h3⟩ := rbs1 h2
  exact ⟨v, u, rfl, h1, h3⟩
theorem dct_len {F : Hp} {al : List Addr} : ∀ {kvs : List (D × D)} {l : List (Key × V)}, Rkv F al kvs l → l.length = kvs.length
  | [], l, h => by simp only [Rkv] at h; subst h; rfl
  | (k, d) :: r, l, h => by
    simp only [Rkv] at h
    obtain ⟨_, _, q, rfl, _, _, h2⟩ := h
    rw [List.length_cons, List.length_cons, dct_len h2]
/-- a dict's keys -/
theorem keysO_of (S : Sim w xr b g z σ H) {d : D} {v : V} {ks : List D} (h : Rb w g H d v) (e : keysO z.os d = some ks) : ∃ a l, v = .ref a ∧ Rd H a (.dK l) ∧ ks = l.map (fun p : Key × V => kD p.1) ∧ ∀ p ∈ l, kOk p.1 := by
  have go : ∀ {F : Hp} {al : List Addr} {kvs : List (D × D)} {l : List (Key × V)}, Rkv F al kvs l → kvs.map (·.1) = l.map (fun p : Key × V => kD p.1) ∧ ∀ p ∈ l, kOk p.1 := by
    intro F al kvs
    induction kvs with
    | nil => intro l h; simp only [Rkv] at h; subst h; exact ⟨rfl, fun p h => by cases h⟩
    | cons p r ih =>
      intro l h
      obtain ⟨k, d⟩ := p
      simp only [Rkv] at h
      obtain ⟨kk, v, u, rfl, rfl, h1, h2⟩ := h
      obtain ⟨i1, i2⟩ := ih h2
      refine ⟨by simp [i1], fun p hp => ?_⟩
      rcases List.mem_cons.mp hp with rfl | hp
      · exact h1.1
      · exact i2 p hp
  have fin : ∀ kvs, dctO z.os d = some kvs → (if (kvs.all fun p => keyOk p.1) = true then some (kvs.map (·.1)) else none) = some ks → ∃ a l, v = .ref a ∧ Rd H a (.dK l) ∧ ks = l.map (fun p : Key × V => kD p.1) ∧ ∀ p ∈ l, kOk p.1 := by
    intro kvs hd he
    split at he
    · rename_i hk
      cases he
      obtain ⟨a, rfl, q⟩ := dctO_of S h hd
      rcases q with ⟨l, q, r⟩ | ⟨l, q, r⟩
      · obtain ⟨g1, g2⟩ := go r
        exact ⟨a, l, rfl, q, g1, g2⟩
      · exact (Rkt_keys r hk).elim
    · cases he
  unfold keysO at e
  split at e
  · exact fin _ rfl e
  · split at e
    · rename_i kvs hi
      exact fin kvs (by simp [dctO, hi]) e
    · rename_i kvs hi
      exact fin kvs (by simp [dctO, hi]) e
    · cases e
  · cases e
theorem fn_hr (f : Fn) (hf : f ≠ .sset) : ∀ b g z σ H Q ds vs, Sim w xr b g z σ H → Rbs w g H ds vs → PostE w xr W b g σ H Q (ofT z (fnD f z.os ds)) → rFn X.K f vs H Q := by
  intro b g z σ H Q ds vs S rs k
  unfold fnD at k
  split at k
  · obtain ⟨v, rfl, rx⟩ := rbs1 rs
    obtain ⟨rfl, hs⟩ := rx.str
    split at k
    · rename_i hz; exact .inl ⟨_, _, rfl, ⟨hz, rfl⟩, PostE.now S (rp_int _ _) k⟩
    · exact k.elim
  · obtain ⟨v, rfl, rx⟩ := rbs1 rs
    obtain ⟨a, us, rfl, r1, r2⟩ := rx.tup S
    exact .inl ⟨_, _, rfl, .inr ⟨us, SqT.of r1, (Rps.length r2).symm⟩, PostE.now S (rp_int _ _) k⟩
  · rename_i kvs
    obtain ⟨v, rfl, rx⟩ := rbs1 rs
    obtain ⟨a, rfl, h⟩ := rx
    split at k
    · rename_i hk
      rcases h with ⟨l, r1, r2⟩ | ⟨l, r1, r2⟩
      · refine .inr ⟨a, l, rfl, .inl (unbox_sub _ _ r1), ?_⟩
        rw [dct_len r2]; exact PostE.now S (rp_int _ _) k
      · exact (Rkt_keys r2 hk).elim
    · exact k.elim
  · rename_i i
    obtain ⟨v, rfl, rx⟩ := rbs1 rs
    have rx' : Rp g.F g.al (.box i) v := rx
    simp only [Rp] at rx'
    obtain ⟨a, ha, rfl⟩ := rx'
    split at k
    · rename_i ds hi
      obtain ⟨a', ha', q⟩ := S.boxAt hi
      rw [ha] at ha'; cases ha'
      obtain ⟨us, q1, q2⟩ := q
      exact .inl ⟨_, _, rfl, .inl ⟨us, SqL.of q1, (Rps.length q2).symm⟩, PostE.now S (rp_int _ _) k⟩
    · rename_i kvs hi
      split at k
      · rename_i hk
        obtain ⟨a', ha', q⟩ := S.boxAt hi
        rw [ha] at ha'; cases ha'
        rcases q with ⟨l, r1, r2⟩ | ⟨l, r1, r2⟩
        · refine .inr ⟨a, l, rfl, .inl r1, ?_⟩
          rw [dct_len r2]; exact PostE.now S (rp_int _ _) k
        · exact (Rkt_keys r2 hk).elim
      · exact k.elim
    · rename_i kvs hi
      split at k
      · rename_i hk
        obtain ⟨a', ha', q0, l, q, r2⟩ := S.boxAt hi
        rw [ha] at ha'; cases ha'
        refine .inr ⟨a, l, rfl, .inr ⟨(b.lk a).1, by rw [q0, q]⟩, ?_⟩
        rw [dct_len r2]; exact PostE.now S (rp_int _ _) k
      · exact k.elim
    · exact k.elim
  · obtain ⟨v, rfl, rx⟩ := rbs1 rs
    obtain ⟨a, us, rfl, r1, r2⟩ := rx
    exact .inl ⟨_, _, rfl, .inl ⟨us, .inl (unbox_sub.rd r1), (Rps.length r2).symm⟩, PostE.now S (rp_int _ _) k⟩
  · obtain ⟨v, rfl, rx⟩ := rbs1 rs
    rw [rx.int]
    exact ⟨_, rfl, PostE.now S (rp_int _ _) k⟩
  · obtain ⟨v, rfl, rx⟩ := rbs1 rs
    rw [rx.int]
    exact .inl (.inl ⟨_, rfl, PostE.now S (rp_int _ _) k⟩)
  · obtain ⟨v, rfl, rx⟩ := rbs1 rs
    rw [rx.bl]
    exact .inl (.inr ⟨_, rfl, PostE.now S (rp_int _ _) k⟩)
  · obtain ⟨v, rfl, rx⟩ := rbs1 rs
    obtain ⟨rfl, hs⟩ := rx.str
    split at k
    · rename_i n hn
      split at k
      · rename_i hl
        exact .inr ⟨_, n, rfl, hn, hl, PostE.now S (rp_int _ _) k⟩
      · exact k.elim
    · exact k.elim
  · obtain ⟨v, rfl, rx⟩ := rbs1 rs
    rw [rx.int]
    split at k
    · rename_i hl
      exact .inl ⟨_, rfl, hl, PostE.now S (rp_str (strOk_int _) _ _) k⟩
    · exact k.elim
  · obtain ⟨v, rfl, rx⟩ := rbs1 rs
    obtain ⟨rfl, hs⟩ := rx.str
    exact .inr ⟨_, rfl, PostE.now S (rp_str hs _ _) k⟩
  · obtain ⟨v, rfl, rx⟩ := rbs1 rs
    obtain ⟨a, us, rfl, r1, r2⟩ := rx.tup S
    exact .inl ⟨a, us, rfl, .inr (SqT.of r1), fun p hp => PostE.new S hp rfl (cel_lst r2) k⟩
  · rename_i x _
    obtain ⟨v, rfl, rx⟩ := rbs1 rs
    split at k
    · rename_i ks hk
      obtain ⟨a, l, rfl, r1, rfl, r3⟩ := keysO_of S rx hk
      exact .inr ⟨a, l, rfl, r1, fun p hp => PostE.new S hp rfl (cel_lst (rps_keys r3)) k⟩
    · cases h : rdL z.os x with
      | none => rw [h] at k; exact k.elim
      | some es =>
        rw [h] at k
        obtain ⟨a, us, rfl, r1, r2⟩ := rdL_of S rx h
        exact .inl ⟨a, us, rfl, .inl (.inl r1), fun p hp => PostE.new S hp rfl (cel_lst r2) k⟩
  · rename_i ds
    obtain ⟨v, rfl, rx⟩ := rbs1 rs
    have rx' : Rp g.F g.al (.tup ds) v := rx
    obtain ⟨a, us, rfl, r1, r2⟩ := rx.tup S
    exact ⟨a, us, rfl, .inr ⟨SqT.of r1, PostE.now S rx' k⟩⟩
  · rename_i x _
    obtain ⟨v, rfl, rx⟩ := rbs1 rs
    cases h : rdL z.os x with
    | none => rw [h] at k; exact k.elim
    | some es =>
      rw [h] at k
      obtain ⟨a, us, rfl, r1, r2⟩ := rdL_of S rx h
      exact ⟨a, us, rfl, .inl ⟨.inl r1, fun p hp => PostE.tup S hp r2 k⟩⟩
  · rename_i x
    obtain ⟨v, rfl, rx⟩ := rbs1 rs
    split at k
    · rename_i ks hk
      split at k
      · rename_i ho
        obtain ⟨a, l, rfl, r1, rfl, r3⟩ := keysO_of S rx hk
        exact .inr ⟨a, l, rfl, r1, r3, ho, fun ys p hy hp => PostE.new S hp rfl (cel_lst (hy _ _)) k⟩
      · exact k.elim
    · split at k
      · rename_i es h
        split at k
        · rename_i ho
          obtain ⟨a, us, rfl, r1, r2⟩ := rdL_of S rx h
          exact .inl ⟨a, us, g.F, g.al, es, rfl, r1, S.sub, r2, ho, fun ys p hy hp => PostE.new S hp rfl (cel_lst hy) k⟩
        · exact k.elim
      · exact k.elim
  · exact absurd rfl hf
  · obtain ⟨v, u, rfl, r1, r2⟩ := rbs2 rs
    rw [r1.int, r2.int]
    exact .inl ⟨_, _, rfl, PostE.now S (rp_int _ _) k⟩
  · obtain ⟨v, u, rfl, r1, r2⟩ := rbs2 rs
    rw [r1.int, r2.int]
    exact .inl ⟨_, _, rfl, PostE.now S (rp_int _ _) k⟩
  · rename_i x
    obtain ⟨v, rfl, rx⟩ := rbs1 rs
    split at k
    · rename_i i r h
      obtain ⟨es, h1, h2⟩ := Option.bind_eq_some_iff.mp h
      obtain ⟨a, us, rfl, r1, r2⟩ := rdL_of S rx h1
      have e := intsO_of r2 h2
      subst e
      refine .inr ⟨a, i :: r, rfl, .inl r1, by simp, fun m hm hle => ?_⟩
      obtain ⟨f1, f2, f3⟩ := fold_min r i
      have : m = r.foldl (fun a b => if b < a then b else a) i := by
        apply Int.le_antisymm
        · rcases f1 with f1 | f1
          · rw [f1]; exact hle i (by simp)
          · exact hle _ (List.mem_cons_of_mem _ f1)
        · rcases List.mem_cons.mp hm with rfl | hm
          · exact f2
          · exact f3 m hm
      subst this
      exact PostE.now S (rp_int _ _) k
    · exact k.elim
  · rename_i x
    obtain ⟨v, rfl, rx⟩ := rbs1 rs
    split at k
    · rename_i i r h
      obtain ⟨es, h1, h2⟩ := Option.bind_eq_some_iff.mp h
      obtain ⟨a, us, rfl, r1, r2⟩ := rdL_of S rx h1
      have e := intsO_of r2 h2
      subst e
      refine .inr ⟨a, i :: r, rfl, .inl r1, by simp, fun m hm hle => ?_⟩
      obtain ⟨f1, f2, f3⟩ := fold_max r i
      have : m = r.foldl (fun a b => if b > a then b else a) i := by
        apply Int.le_antisymm
        · rcases List.mem_cons.mp hm with rfl | hm
          · exact f2
          · exact f3 m hm
        · rcases f1 with f1 | f1
          · rw [f1]; exact hle i (by simp)
          · exact hle _ (List.mem_cons_of_mem _ f1)
      subst this
      exact PostE.now S (rp_int _ _) k
    · exact k.elim
  · rename_i x
    obtain ⟨v, rfl, rx⟩ := rbs1 rs
    split at k
    · rename_i is h
      obtain ⟨es, h1, h2⟩ := Option.bind_eq_some_iff.mp h
      obtain ⟨a, us, rfl, r1, r2⟩ := rdL_of S rx h1
      have e := intsO_of r2 h2
      subst e
      exact ⟨a, is, rfl, .inl r1, PostE.now S (rp_int _ _) k⟩
    · exact k.elim
  · exact k.elim
theorem star_any : ∀ (es : List Expr) (pos : Pos) (env : Env), es.all (fun e => !Expr.star e) = true → (backTo pos (starEach es env)).any (·.1) = false
  | [], _, _, _ => rfl
  | e :: es, pos, env, h => by
    rw [List.all_cons, Bool.and_eq_true] at h
    rw [star_ok (by simpa using h.1)]
    have := star_any es pos env h.2
    unfold backTo at this ⊢
    rw [List.map_cons, List.any_cons, this]
    rfl
theorem pe_fn (hc : X.calm = true) (hu : X.A.units + 64 < cLine) (f : Fn) {e : Expr} {es : List Expr} {t : TA} {p pos : Pos} (hg : Gl X (fnName f)) (hm : X.mg (fnName f) = none) (hs : Expr.star e = false) (hs2 : es.all (fun e => !Expr.star e) = true) (ha : PA X (e :: es) t) :
    PE X (.Call (.Name (fnName f) p) (e :: es) [] pos) (tCB (rFn X.K f) t) := by
  have h1 := star_ok hs es X.env
  have h2 := star_any es pos X.env hs2
  have h3 := fn_boot f
  have h4 := fn_call (X := X) hc hu f
  cases f with
  | len | abs | sorted | sum | min | max => exact pe_callB h4 hg hm h3 ha (by decide) (by decide) h1 h2
  | int | str | list | tuple | sset | dict => exact pe_callTy h4 hg hm h3 ha (by decide) (by decide) h1 h2
theorem s_fn {cf : CF} (hc : X.calm = true) (hu : X.A.units + 64 < cLine) (f : Fn) (hf : f ≠ .sset) {e : Expr} {es : List Expr} {is : List E} {p pos : Pos} (hg : Gl X (fnName f)) (hm : X.mg (fnName f) = none) (hs : Expr.star e = false) (hs2 : es.all (fun e => !Expr.star e) = true) (ha : SndA w xr X W (e :: es) (evalEs cf is)) :
    SndE w xr X W (.Call (.Name (fnName f) p) (e :: es) [] pos) (evalE cf (.fn f is)) := by
  obtain ⟨t, pa, qa⟩ := ha
  refine ⟨_, pe_fn hc hu f hg hm hs hs2 pa, fun b g z σ H Q S k => qa b g z σ H _ S ?_⟩
  simp only [evalE] at k
  cases r : evalEs cf is z with
  | stuck => rw [r] at k; exact k
  | exc c x z' => rw [r] at k; exact k
  | ok ds z1 =>
    rw [r] at k
    intro g1 vs H1 st1 S1 rs
    exact fn_hr (W := W) f hf b g1 z1 σ H1 Q ds vs S1 rs (PostE.step S1 st1 k)

/-! ### isinstance -/
def tyName : Ty → Option String
  | .int => some "int"
  | .bool => some "bool"
  | .str => some "str"
  | .list => some "list"
  | .tuple => some "tuple"
  | _ => none
theorem ty_isD {K : PySem.W.Frag} {d : D} {t : Ty} {n m : String} (h : tyOf d = some n) (h' : tyName t = some m) : PySem.W.kitOne K (.type n) (.type m) = some (isD t d) := by
  cases d <;> simp only [tyOf, Option.some.injEq, reduceCtorEq] at h <;> subst h <;> cases t <;> simp only [tyName, Option.some.injEq, reduceCtorEq] at h' <;> subst h' <;> first | exact kit_ty (r := true) (by decide +kernel) | exact kit_ty (r := false) (by decide +kernel)
theorem tyx_of {K : PySem.W.Frag} {d : D} {v : V} {n : String} (S : Sim w xr b g z σ H) (h : Rb w g H d v) (e : tyOf (kindD z.os d) = some n) : TyX K H v (.type n) := by
  cases d with
  | non => cases e; rw [h.non]; exact .base .non
  | bl c => cases e; rw [h.bl]; exact .base (.bl c)
  | int i => cases e; rw [h.int]; exact .base (.int i)
  | str s => cases e; rw [h.str.1]; exact .base (.str s)
  | tup ds =>
    cases e
    obtain ⟨a, vs, rfl, r1, r2⟩ := h.tup S
    exact .base (.tup r1)
  | lst ds =>
    cases e
    obtain ⟨a, vs, rfl, r1, r2⟩ := h
    rcases unbox_sub.rd r1 with q | ⟨o, q⟩
    · exact .base (.lst q)
    · exact .base (.frz q)
  | dct kvs =>
    cases e
    obtain ⟨a, rfl, h⟩ := h
    rcases h with ⟨l, r1, r2⟩ | ⟨l, r1, r2⟩
    · exact .base (.dK (unbox_sub _ _ r1))
    · exact .base (.dT (unbox_sub _ _ r1))
  | box i =>
    have h' : Rp g.F g.al (.box i) v := h
    simp only [Rp] at h'
    obtain ⟨a, ha, rfl⟩ := h'
    simp only [kindD] at e
    split at e
    · rename_i ds hi
      cases e
      obtain ⟨a', ha', vs, r1, _⟩ := S.boxAt hi
      rw [ha] at ha'; cases ha'
      exact .base (.lst r1)
    · rename_i ds hi
      cases e
      obtain ⟨a', ha', q⟩ := S.boxAt hi
      rw [ha] at ha'; cases ha'
      rcases q with ⟨l, r1, r2⟩ | ⟨l, r1, r2⟩
      · exact .base (.dK r1)
      · exact .base (.dT r1)
    · cases e
/-- the class's name is the built-in's -/
theorem s_isi {cf : CF} {e : Expr} {i : E} {t : Ty} {m : String} {x : Str} {p p' pos : Pos} (hm : tyName t = some m) (hx : bootBuiltins x = some (.type m)) (hxn : x ≠ "__name__") (hxd : (x == ("__debug__" : Str)) = false) (hgx : Gl X x) (hmx : X.mg x = none)
    (hg : Gl X "isinstance") (hmg : X.mg "isinstance" = none) (hs : Expr.star e = false) (h : SndB w xr X W e fun z => fst1 (evalE cf i z)) :
    SndE w xr X W (.Call (.Name "isinstance" p) [e, .Name x p'] [] pos) (evalE cf (.isi i [t])) := by
  obtain ⟨te, pe, qe⟩ := h
  refine ⟨_, pe_callB call_isi hg hmg PyProof.Rows.boot_isinstance (pa_cons pe (pa_cons (pe_bltn (v := .ty m) hgx hmx hx rfl hxn hxd) pa_nil) (star_ok hs _ _)) (by decide) (by decide) (star_ok hs _ _) (by rfl), fun b g z σ H Q S k => qe b g z σ H _ S ?_⟩
  simp only [evalE] at k
  simp only [fst1]
  cases r : evalE cf i z with
  | stuck => rw [r] at k; exact k
  | exc c x z' => rw [r] at k; exact k
  | ok a z1 =>
    rw [r] at k
    simp only [R.bind_ok] at k
    intro g1 v H1 st1 S1 rb
    have k1 := PostE.step S1 st1 k
    cases hn : tyOf (kindD z1.os a.1) with
    | none => simp only [isiZ, hn] at k1; exact k1.elim
    | some n =>
      simp only [isiZ, hn] at k1
      exact ⟨v, .ty m, .type n, .type m, isD t (kindD z1.os a.1), rfl, .ty m, tyx_of S1 rb hn, ty_isD hn hm, k1.now S1 (by simpa using rp_bl _ _)⟩
end
end Vi

namespace Vi
open PySem L2

/-- behind a call, for who stood at (g, H) -/
structure Out (cad : Nat → Addr) (lk : Addr → Obj × HO) (g : Gh) (H : Hp) (g' : Gh) (H' : Hp) (os' : Os) : Prop where
  st : Stp g H g' H'
  newF : ∀ a, g'.F a ≠ none → g.F a ≠ none ∨ H a = none
  sub : Sub g'.F H'
  alF : ∀ a ∈ g'.al, g'.F a = none
  nd : g'.al.Nodup
  box : Paired (BxRel cad lk g'.F g'.al H') os' g'.al
/-- an argument: only read, or frozen -/
def Rm (g : Gh) (H : Hp) (m : Bool) (d : D) (v : V) : Prop := if m = true then (∀ w, Rb w g H d v) else Rp g.F g.al d v
def Rms (g : Gh) (H : Hp) : List Bool → List D → List V → Prop
  | _, [], vs => vs = []
  | bs, d :: ds, vs => ∃ v r, vs = v :: r ∧ Rm g H (bs.headD false) d v ∧ Rms g H bs.tail ds r
theorem Rm.mono {g g' : Gh} {H H' : Hp} (s : Stp g H g' H') {m : Bool} {d : D} {v : V} (h : Rm g H m d v) : Rm g' H' m d v := by
  unfold Rm at h ⊢
  split
  · rename_i hm; rw [if_pos hm] at h; exact fun w => (h w).mono s
  · rename_i hm; rw [if_neg hm] at h; exact Rp.mono s.F s.al _ _ h
theorem Rms.mono {g g' : Gh} {H H' : Hp} (s : Stp g H g' H') : ∀ {bs : List Bool} {ds : List D} {vs : List V}, Rms g H bs ds vs → Rms g' H' bs ds vs
  | _, [], vs, h => h
  | bs, d :: ds, vs, h => by
    obtain ⟨v, r, e, h1, h2⟩ := h
    exact ⟨v, r, e, h1.mono s, h2.mono s⟩
theorem Rms.length {g : Gh} {H : Hp} : ∀ {bs : List Bool} {ds : List D} {vs : List V}, Rms g H bs ds vs → vs.length = ds.length
  | _, [], vs, h => by cases h; rfl
  | bs, d :: ds, vs, h => by
    obtain ⟨v, r, rfl, _, h2⟩ := h
    rw [List.length_cons, List.length_cons, h2.length]
/-- ahead of a call -/
structure Inp (cad : Nat → Addr) (lk : Addr → Obj × HO) (g : Gh) (H : Hp) (os : Os) (bs : List Bool) (ds : List D) (vs : List V) : Prop where
  sub : Sub g.F H
  alF : ∀ a ∈ g.al, g.F a = none
  nd : g.al.Nodup
  box : Paired (BxRel cad lk g.F g.al H) os g.al
  args : Rms g H bs ds vs
def Ret (g' : Gh) (H H' : Hp) (d : D) (fr : Bool) (v : V) : Prop :=
  if (fr && d.cell) = true then ∃ a, v = .ref a ∧ g'.F a = none ∧ a ∉ g'.al ∧ H a = none ∧ Cel g'.F g'.al H' a d else Rp g'.F g'.al d v
def PostC (cad : Nat → Addr) (lk : Addr → Obj × HO) (g : Gh) (H : Hp) (Q : VK) (E : XK) : R Os (D × Bool) → Prop
  | .ok a os' => ∀ g' H' v, Out cad lk g H g' H' os' → Ret g' H H' a.1 a.2 v → Q v H'
  | .exc c x os' => ∀ g' H' cls dd, Out cad lk g H g' H' os' → XR cad g' c x cls dd H' → E cls dd H'
  | .stuck => False
/-- a def's promise: it does what cl says -/
def spR (cad : Nat → Addr) (bs : List Bool) (cl : List D → Os → R Os (D × Bool)) : Sp := fun vs H Q E => ∃ (g : Gh) (lk : Addr → Obj × HO) (os : Os) (ds : List D), Inp cad lk g H os bs ds vs ∧ ds.length = bs.length ∧ PostC cad lk g H Q E (cl ds os)

section
variable {w : Wd} {xr : Nat → Option Addr → V → Prop} {X : Cx} {W : WX} {b : Bs} {g g2 : Gh} {z z2 : Z} {σ : St} {H H2 : Hp}
theorem Sim.out (S : Sim w xr b g z σ H) {g' : Gh} {H' : Hp} {os' : Os} (o : Out w.cad b.lk g H g' H' os') : Sim w xr b g' { z with os := os' } σ H' := by
  refine ⟨o.sub, fun a ha => ?_, fun a u e n => o.st.keep a u (S.kept a u e n) fun q => ?_, S.pF.trans o.st.F, S.pre.trans o.st.al, fun a ha => ?_, o.alF, o.nd, o.box, S.len, S.ln, fun i e he => ?_, S.dis, fun a ha => ?_⟩
  · rcases o.newF a ha with h | h
    · exact S.new a h
    · exact .inr (S.freshH h)
  · rcases S.alnew a q with h | h
    · exact n h
    · rw [e] at h; cases h
  · rcases o.st.alnew a ha with h | h
    · exact S.alnew a h
    · exact .inr (S.freshH h)
  · refine (S.ent i e he).mono o.st fun a v e1 ho ev => ?_
    cases e with
    | no => cases ho
    | bor d => cases ho
    | ex c x => cases ho
    | val d fr =>
      obtain ⟨a', h1, h2, h3⟩ := S.ownAt he ho
      rw [h1] at e1; cases e1; cases ev
      cases hf : g'.F a with
      | none => rfl
      | some u =>
        rcases o.newF a (by rw [hf]; exact fun q => by cases q) with q | q
        · exact absurd h3.nF q
        · obtain ⟨u', hu⟩ := h3.cl.there
          rw [hu] at q; cases q
  · obtain ⟨h1, h2, u, h3⟩ := S.rs a ha
    refine ⟨?_, fun q => ?_, u, o.st.keep a u h3 h2⟩
    · cases hf : g'.F a with
      | none => rfl
      | some u' =>
        rcases o.newF a (by rw [hf]; exact fun q => by cases q) with q | q
        · exact absurd h1 q
        · rw [h3] at q; cases q
    · rcases o.st.alnew a q with h | h
      · exact h2 h
      · rw [h3] at h; cases h
theorem Sim.inp (S : Sim w xr b g z σ H) {bs : List Bool} {ds : List D} {vs : List V} (r : Rms g H bs ds vs) : Inp w.cad b.lk g H z.os bs ds vs := ⟨S.sub, S.alF, S.nd, S.box, r⟩
theorem Ret.tmp (S : Sim w xr b g z σ H) {g' : Gh} {H' H0 : Hp} {os' : Os} (o : Out w.cad b.lk g H g' H' os') {d : D} {fr : Bool} {v : V} (r : Ret g' H H' d fr v) (h0 : ∀ a, H a = none → H0 a = none) : Tmp w b g' { z with os := os' } σ H0 H' d fr v := by
  unfold Ret at r
  unfold Tmp
  split
  · rename_i hc
    rw [if_pos hc] at r
    obtain ⟨a, rfl, h1, h2, h3, h4⟩ := r
    refine ⟨a, rfl, ⟨h1, h2, S.freshH h3, S.freshR h3, h4⟩, fun i e he ho q => ?_, h0 a h3⟩
    cases e with
    | no => cases ho
    | bor d => cases ho
    | ex c x => cases ho
    | val d' fr' =>
      obtain ⟨a', q1, q2, q3⟩ := S.ownAt he ho
      rw [q2] at q; cases q
      obtain ⟨u, hu⟩ := q3.cl.there
      rw [h3] at hu; cases hu
  · rename_i hc
    rw [if_neg hc] at r
    exact r
/-- what a call asks, from what is wanted behind it -/
theorem call_hr {cl : List D → Os → R Os (D × Bool)} {Q : VK} {bs : List Bool} {ds : List D} {vs : List V} (S : Sim w xr b g z σ H) (r : Rms g H bs ds vs) (hn : ds.length = bs.length) (k : PostE w xr W b g σ H Q (outZ z (cl ds z.os))) : spR w.cad bs cl vs H Q (WE W σ) := by
  refine ⟨g, b.lk, z.os, ds, S.inp r, hn, ?_⟩
  unfold outZ at k
  cases e : cl ds z.os with
  | stuck => rw [e] at k; exact k
  | ok a os' =>
    rw [e] at k
    exact fun g' H' v o rt => k g' v H' o.st (S.out o) (rt.tmp S o fun _ h => h)
  | exc c x os' =>
    rw [e] at k
    exact fun g' H' cls dd o x => k g' cls dd H' o.st (S.out o) x

/-! ### arguments, each in its way -/
def PostAM (w : Wd) (xr : Nat → Option Addr → V → Prop) (W : WX) (b : Bs) (g : Gh) (σ : St) (H : Hp) (bs : List Bool) (Q : List V → Hp → Prop) : R Z (List D) → Prop
  | .ok ds z' => ∀ g' vs H', Stp g H g' H' → Sim w xr b g' z' σ H' → Rms g' H' bs ds vs → Q vs H'
  | .exc c x z' => ∀ g' cls dd H', Stp g H g' H' → Sim w xr b g' z' σ H' → XR w.cad g' c x cls dd H' → W cls dd σ H'
  | .stuck => False
def SndAM (w : Wd) (xr : Nat → Option Addr → V → Prop) (X : Cx) (W : WX) (es : List Expr) (bs : List Bool) (f : Z → R Z (List D)) : Prop :=
  ∃ t, PA X es t ∧ ∀ b g z σ H Q, Sim w xr b g z σ H → PostAM w xr W b g σ H bs Q (f z) → t σ H Q
theorem PostAM.step {Q : List V → Hp → Prop} {bs : List Bool} {r : R Z (List D)} (st : Stp g H g2 H2) (k : PostAM w xr W b g σ H bs Q r) : PostAM w xr W b g2 σ H2 bs Q r := by
  cases r with
  | ok a z' => exact fun g' v H' s' S' t => k g' v H' (st.trans s') S' t
  | exc c x z' => exact fun g' cls dd H' s' S' t => k g' cls dd H' (st.trans s') S' t
  | stuck => exact k.elim
theorem am_nil {cf : CF} {bs : List Bool} : SndAM w xr X W [] bs (evalEs cf []) := ⟨_, pa_nil, fun b g z σ H Q S k => k g [] H (.refl _ _) S rfl⟩
theorem am_go {cf : CF} {m : Bool} {bs : List Bool} {e : Expr} {es : List Expr} {i : E} {is : List E} {ta : TE} {tb : TA} (hs : Expr.star e = false) (pa : PE X e ta) (pb : PA X es tb)
    (qa : ∀ b g z σ H (Q : VK), Sim w xr b g z σ H → (match evalE cf i z with
      | .ok x z' => ∀ g' v H', Stp g H g' H' → Sim w xr b g' z' σ H' → Rm g' H' m x.1 v → Q v H'
      | .exc c x z' => ∀ g' cls dd H', Stp g H g' H' → Sim w xr b g' z' σ H' → XR w.cad g' c x cls dd H' → W cls dd σ H'
      | .stuck => False) → ta σ H Q)
    (qb : ∀ b g z σ H Q, Sim w xr b g z σ H → PostAM w xr W b g σ H bs Q (evalEs cf is z) → tb σ H Q) : SndAM w xr X W (e :: es) (m :: bs) (evalEs cf (i :: is)) := by
  refine ⟨_, pa_cons pa pb (star_ok hs _ _), fun b g z σ H Q S k => qa b g z σ H _ S ?_⟩
  simp only [evalEs] at k
  cases ra : evalE cf i z with
  | stuck => rw [ra] at k; exact k
  | exc c x z' => rw [ra] at k; exact k
  | ok x z1 =>
    rw [ra] at k
    intro g1 v H1 st1 S1 rx
    refine qb b g1 z1 σ H1 _ S1 ?_
    have k1 := PostAM.step st1 k
    simp only [R.bind_ok] at k1
    cases rb : evalEs cf is z1 with
    | stuck => rw [rb] at k1; exact k1
    | exc c x z' => rw [rb] at k1; exact k1
    | ok y z2 =>
      rw [rb] at k1
      intro g2 vs H2 st2 S2 ry
      exact k1 g2 (v :: vs) H2 st2 S2 ⟨v, vs, rfl, rx.mono st2, ry⟩
theorem am_b {cf : CF} {bs : List Bool} {e : Expr} {es : List Expr} {i : E} {is : List E} (hs : Expr.star e = false) (he : SndB w xr X W e fun z => fst1 (evalE cf i z)) (hes : SndAM w xr X W es bs (evalEs cf is)) :
    SndAM w xr X W (e :: es) (true :: bs) (evalEs cf (i :: is)) := by
  obtain ⟨ta, pa, qa⟩ := he
  obtain ⟨tb, pb, qb⟩ := hes
  refine am_go hs pa pb (fun b g z σ H Q S k => qa b g z σ H Q S ?_) qb
  simp only [fst1]
  cases ra : evalE cf i z with
  | stuck => rw [ra] at k; exact k
  | exc c x z' => rw [ra] at k; exact k
  | ok x z1 =>
    rw [ra] at k
    exact fun g1 v H1 st1 S1 rx => k g1 v H1 st1 S1 (by unfold Rm; rw [if_pos rfl]; exact fun w' => rx)
theorem am_f {cf : CF} {bs : List Bool} {e : Expr} {es : List Expr} {i : E} {is : List E} (hs : Expr.star e = false) (he : SndF w xr X W e fun z => fst1 (evalE cf i z)) (hes : SndAM w xr X W es bs (evalEs cf is)) :
    SndAM w xr X W (e :: es) (false :: bs) (evalEs cf (i :: is)) := by
  obtain ⟨ta, pa, qa⟩ := he
  obtain ⟨tb, pb, qb⟩ := hes
  refine am_go hs pa pb (fun b g z σ H Q S k => qa b g z σ H Q S ?_) qb
  simp only [fst1]
  cases ra : evalE cf i z with
  | stuck => rw [ra] at k; exact k
  | exc c x z' => rw [ra] at k; exact k
  | ok x z1 =>
    rw [ra] at k
    exact fun g1 v H1 st1 S1 rx => k g1 v H1 st1 S1 (by unfold Rm; rw [if_neg Bool.false_ne_true]; exact rx)
/-- a def is called by its name -/
theorem s_call {cf : CF} {f lv : Nat} {bs : List Bool} {x : Str} {fa : Addr} {fd : FuncData} {ps : List Str} {e : Expr} {es : List Expr} {is : List E} {p pos : Pos} (tk : Takes X W) (F : FnOk X.prog X.w X.K X.mg X.base (L2.CX X.prog X.w) lv fa fd ps (spR w.cad bs (cf.call f))) (hr : Room lv X.A)
    (hg : Gl X x) (hm : X.mg x = some (.ref fa)) (hk : PySem.W.keepIn X.K (.ref fa) = true) (hb : Binds X.K fd ps []) (hdb : (x == ("__debug__" : Str)) = false) (hs : Expr.star e = false) (hs2 : es.all (fun e => !Expr.star e) = true) (hl : is.length = bs.length) (ha : SndAM w xr X W (e :: es) bs (evalEs cf is)) :
    SndE w xr X W (.Call (.Name x p) (e :: es) [] pos) (evalE cf (.call f is)) := by
  obtain ⟨t, pa, qa⟩ := ha
  refine ⟨_, pe_callS F hr hg hm hk hb (fun σ => passAt tk σ) pa hdb (star_ok hs _ _) (star_any _ _ _ hs2), fun b g z σ H Q S k => qa b g z σ H _ S ?_⟩
  simp only [evalE] at k
  cases r : evalEs cf is z with
  | stuck => rw [r] at k; exact k
  | exc c x z' => rw [r] at k; exact k
  | ok ds z1 =>
    rw [r] at k
    intro g1 vs H1 st1 S1 rs
    exact call_hr S1 rs (by rw [evalEs_length _ _ _ _ r, hl]) (PostE.step S1 st1 k)
end
end Vi

namespace Vi
open PySem L2

section
variable {w : Wd} {xr : Nat → Option Addr → V → Prop} {X : Cx} {W : WX} {b : Bs} {g g2 : Gh} {z z2 : Z} {σ : St} {H H2 : Hp}

/-- a value comes into a slot -/
theorem Sim.assign (S : Sim w xr b g z σ H) {i : Nat} {d : D} {fr : Bool} {v : V} (hi : i < z.env.length) (h : ValRel w b g H d fr v) (off : (fr && d.cell) = true → ∀ a, v = .ref a → Off z σ a) :
    Sim w xr b g { z with env := z.env.set i (.val d fr) } (σ.set i (some v)) H := by
  have hi' : i < σ.length := by rw [← S.len]; exact hi
  refine ⟨S.sub, S.new, S.kept, S.pF, S.pre, S.alnew, S.alF, S.nd, S.box, by simp [S.len], by simp [S.ln], fun j e he => ?_, fun j k e e' hjk h1 h2 o1 o2 => ?_, S.rs⟩
  · by_cases hj : i = j
    · subst hj
      rw [List.getElem?_set_self hi] at he
      cases he
      rw [List.getElem?_set_self hi']
      exact ⟨v, rfl, h⟩
    · rw [List.getElem?_set_ne hj] at he ⊢
      exact S.ent j e he
  · have ad : ∀ {j : Nat}, i ≠ j → sad (σ.set i (some v)) j = sad σ j := fun {j} hj => by
      unfold sad; rw [List.getElem?_set_ne hj]
    have ai : ∀ {a : Addr}, sad (σ.set i (some v)) i = some a → v = .ref a := fun {a} q => by
      unfold sad at q
      rw [List.getElem?_set_self hi'] at q
      cases v <;> simp at q
      rw [q]
    by_cases hj : i = j
    · subst hj
      have hk : i ≠ k := hjk
      rw [List.getElem?_set_self hi] at h1; cases h1
      rw [List.getElem?_set_ne hk] at h2
      rw [ad hk]
      intro q
      obtain ⟨a, q1, q2, q3⟩ : ∃ a, σ[k]? = some (some (.ref a)) ∧ sad σ k = some a ∧ True := by
        cases e' with
        | no => cases o2
        | ex c x => cases o2
        | bor d => cases o2
        | val d' fr' =>
          obtain ⟨a, q1, q2, _⟩ := S.ownAt h2 o2
          exact ⟨a, q1, q2, trivial⟩
      rw [q2] at q
      have ev := ai q
      exact off o1 a ev k e' h2 o2 q2
    · by_cases hk : i = k
      · subst hk
        rw [List.getElem?_set_self hi] at h2; cases h2
        rw [List.getElem?_set_ne hj] at h1
        rw [ad hj]
        intro q
        obtain ⟨a, q1, q2, q3⟩ : ∃ a, σ[j]? = some (some (.ref a)) ∧ sad σ j = some a ∧ True := by
          cases e with
          | no => cases o1
          | ex c x => cases o1
          | bor d => cases o1
          | val d' fr' =>
            obtain ⟨a, q1, q2, _⟩ := S.ownAt h1 o1
            exact ⟨a, q1, q2, trivial⟩
        rw [q2] at q
        have ev := ai q.symm
        exact off o2 a ev j e h1 o1 q2
      · rw [List.getElem?_set_ne hj] at h1
        rw [List.getElem?_set_ne hk] at h2
        rw [ad hj, ad hk]
        exact S.dis j k e e' hjk h1 h2 o1 o2
theorem Sim.assignF (S : Sim w xr b g z σ H) {i : Nat} {d : D} {v : V} (hi : i < z.env.length) (h : Rp g.F g.al d v) : Sim w xr b g { z with env := z.env.set i (.val d false) } (σ.set i (some v)) H :=
  S.assign hi (by unfold ValRel; rw [if_neg (by simp)]; exact h) fun q => by simp at q
theorem Sim.assignT (S : Sim w xr b g z σ H) {i : Nat} {d : D} {fr : Bool} {v : V} {H0 : Hp} (hi : i < z.env.length) (h : Tmp w b g z σ H0 H d fr v) : Sim w xr b g { z with env := z.env.set i (.val d fr) } (σ.set i (some v)) H := by
  unfold Tmp at h
  split at h
  · rename_i hc
    obtain ⟨a, rfl, o, off, _⟩ := h
    exact S.assign hi (by unfold ValRel; rw [if_pos hc]; exact ⟨a, rfl, o⟩) fun _ c q => by cases q; exact off
  · rename_i hc
    exact S.assign hi (by unfold ValRel; rw [if_neg hc]; exact h) fun q => absurd q hc

/-! ### targets -/
theorem wipe_set {i : Nat} {x : Option V} : ∀ {vs : List Nat} {σ : St}, i ∈ vs → wipe (σ.set i x) vs = wipe σ vs
  | v :: vs, σ, h => by
    unfold wipe
    by_cases hi : i ∈ vs
    · rw [wipe_set hi]
    · have e : i = v := by
        rcases List.mem_cons.mp h with e | e
        · exact e
        · exact absurd e hi
      subst e
      have : ∀ (us : List Nat) (τ : St), i ∉ us → wipe (τ.set i x) us = (wipe τ us).set i x := by
        intro us
        induction us with
        | nil => intro τ _; rfl
        | cons u us ih =>
          intro τ hu
          simp only [List.mem_cons, not_or] at hu
          unfold wipe
          rw [ih τ hu.2, List.set_comm _ _ hu.1]
      rw [this vs σ hi, List.set_set]
def SndG (w : Wd) (xr : Nat → Option Addr → V → Prop) (X : Cx) (tg : Expr) (t : Tg) : Prop :=
  ∃ gt, PG X tg gt ∧ ∀ b g z σ H d v env' (Q : St → Hp → Prop), Sim w xr b g z σ H → Rp g.F g.al d v → setT t d z.env = some env' →
    (∀ σ', Sim w xr b g { z with env := env' } σ' H → (∀ vs, (∀ i ∈ t.slots, i ∈ vs) → wipe σ' vs = wipe σ vs) → Q σ' H) → gt v σ H Q
def SndGs (w : Wd) (xr : Nat → Option Addr → V → Prop) (X : Cx) (tgs : List Expr) (ts : List Tg) : Prop :=
  ∃ gt, PGs X tgs gt ∧ ∀ b g z σ H ds vs env' (Q : St → Hp → Prop), Sim w xr b g z σ H → Rps g.F g.al ds vs → setTs ts ds z.env = some env' →
    (∀ σ', Sim w xr b g { z with env := env' } σ' H → (∀ us, (∀ i ∈ slotsL ts, i ∈ us) → wipe σ' us = wipe σ us) → Q σ' H) → gt vs σ H Q
theorem g_nm {i : Nat} {x : Str} {pos : Pos} (hm : X.N.length = w.m) (hN : X.N.Nodup) (hi : X.N[i]? = some x) (hx : Loc X.env.scope x) (hf : X.fn x = true ∨ X.env.scope.names.lookup x = some .local) : SndG w xr X (.Name x pos) (.nm i) := by
  refine ⟨_, pg_name hN hi hx hf, fun b g z σ H d v env' Q S r e k => ?_⟩
  simp only [setT] at e
  cases e
  have hlt : i < z.env.length := by
    rw [S.len, S.ln, ← hm]; exact (List.getElem?_eq_some_iff.mp hi).1
  refine k _ (S.assignF hlt r) fun vs hv => wipe_set (hv i (by simp [Tg.slots]))
theorem gs_nil : SndGs w xr X [] [] := by
  refine ⟨_, pgs_nil, fun b g z σ H ds vs env' Q S r e k => ?_⟩
  cases ds with
  | nil =>
    simp only [Rps] at r
    simp only [setTs] at e
    cases e
    exact ⟨r, k σ S fun _ _ => rfl⟩
  | cons d ds => simp [setTs] at e
theorem gs_cons {e : Expr} {es : List Expr} {t : Tg} {ts : List Tg} (hs : (assignEach (e :: es) X.env).map (·.2) = assign e X.env :: (assignEach es X.env).map (·.2)) (h : SndG w xr X e t) (hr : SndGs w xr X es ts) : SndGs w xr X (e :: es) (t :: ts) := by
  obtain ⟨t1, p1, q1⟩ := h
  obtain ⟨t2, p2, q2⟩ := hr
  refine ⟨_, pgs_cons p1 p2 hs, fun b g z σ H ds vs env' Q S r he k => ?_⟩
  cases ds with
  | nil => simp [setTs] at he
  | cons d ds =>
    simp only [Rps] at r
    obtain ⟨v, us, rfl, r1, r2⟩ := r
    simp only [setTs] at he
    obtain ⟨env1, e1, e2⟩ := Option.bind_eq_some_iff.mp he
    refine ⟨v, us, rfl, q1 b g z σ H d v env1 _ S r1 e1 fun σ1 S1 w1 => ?_⟩
    refine q2 b g { z with env := env1 } σ1 H ds us env' Q S1 r2 e2 fun σ2 S2 w2 => ?_
    refine k σ2 S2 fun us hu => ?_
    rw [w2 us fun i hi => hu i (by simp only [slotsL]; exact List.mem_append_right _ hi), w1 us fun i hi => hu i (by simp only [slotsL]; exact List.mem_append_left _ hi)]
theorem g_tp {es : List Expr} {ts : List Tg} {k0 : Nat} {pos : Pos} (hc : X.calm = true) (hn : (assignEach es X.env).length = ts.length) (hst : (assignEach es X.env).findIdx? (·.1) = none) (h : SndGs w xr X es ts) : SndG w xr X (.Tuple es k0 pos) (.tp ts) := by
  obtain ⟨gt, p, q⟩ := h
  refine ⟨_, pg_tup hc p hn hst, fun b g z σ H d v env' Q S r e k => ?_⟩
  simp only [setT] at e
  cases d with
  | tup ds =>
    simp only [Rp] at r
    obtain ⟨a, vs, rfl, r1, r2⟩ := r
    have len : ∀ (ts : List Tg) (ds : List D) (env env' : List Ent), setTs ts ds env = some env' → ds.length = ts.length := by
      intro ts
      induction ts with
      | nil => intro ds env env' h; cases ds with | nil => rfl | cons d ds => simp [setTs] at h
      | cons t ts ih =>
        intro ds env env' h
        cases ds with
        | nil => simp [setTs] at h
        | cons d ds =>
          simp only [setTs] at h
          obtain ⟨env1, e1, e2⟩ := Option.bind_eq_some_iff.mp h
          rw [List.length_cons, List.length_cons, ih _ _ _ e2]
    refine ⟨a, vs, rfl, SqT.of (S.sub _ _ r1), by rw [Rps.length r2]; exact len _ _ _ _ e, q b g z σ H ds vs env' Q S r2 e fun σ' S' w' => k σ' S' fun us hu => w' us fun i hi => hu i (by simp only [Tg.slots]; exact hi)⟩
  | _ => simp at e
/-- a target of a walk -/
def SndGO (w : Wd) (xr : Nat → Option Addr → V → Prop) (X : Cx) (tg : Expr) (t : Tg) : Prop :=
  ∃ gt, PG X tg gt ∧ ∀ b g z σ H d v env' (Q : St → Hp → Prop), Sim w xr b g z σ H → Rp g.F g.al d v → setO z.os t d z.env = some env' →
    (∀ σ', Sim w xr b g { z with env := env' } σ' H → Q σ' H) → gt v σ H Q
theorem go_of {tg : Expr} {t : Tg} (ht : ∀ ts, t ≠ .tl ts) (h : SndG w xr X tg t) : SndGO w xr X tg t := by
  obtain ⟨gt, p, q⟩ := h
  refine ⟨gt, p, fun b g z σ H d v env' Q S r e k => ?_⟩
  have e' : setT t d z.env = some env' := by
    cases t with
    | tl ts => exact absurd rfl (ht ts)
    | nm i => exact e
    | tp ts => exact e
  exact q b g z σ H d v env' Q S r e' fun σ' S' _ => k σ' S'
theorem setTs_len : ∀ (ts : List Tg) (ds : List D) (env env' : List Ent), setTs ts ds env = some env' → ds.length = ts.length := by
  intro ts
  induction ts with
  | nil => intro ds env env' h; cases ds with | nil => rfl | cons d ds => simp [setTs] at h
  | cons t ts ih =>
    intro ds env env' h
    cases ds with
    | nil => simp [setTs] at h
    | cons d ds =>
      simp only [setTs] at h
      obtain ⟨env1, e1, e2⟩ := Option.bind_eq_some_iff.mp h
      rw [List.length_cons, List.length_cons, ih _ _ _ e2]
theorem go_tl {es : List Expr} {ts : List Tg} {k0 : Nat} {pos : Pos} (hc : X.calm = true) (hn : (assignEach es X.env).length = ts.length) (hst : (assignEach es X.env).findIdx? (·.1) = none) (h : SndGs w xr X es ts) : SndGO w xr X (.Tuple es k0 pos) (.tl ts) := by
  obtain ⟨gt, p, q⟩ := h
  refine ⟨_, pg_lst hc p hn hst, fun b g z σ H d v env' Q S r e k => ?_⟩
  simp only [setO] at e
  split at e
  · rename_i d i
    split at e
    · rename_i ds hi
      obtain ⟨a, a1, xs, h1, h2⟩ := S.boxAt hi
      simp only [Rp] at r
      obtain ⟨a', a2, rfl⟩ := r
      rw [a1] at a2
      cases a2
      exact ⟨a, xs, rfl, SqL.of h1, by rw [Rps.length h2]; exact setTs_len _ _ _ _ e, q b g z σ H ds xs env' Q S h2 e fun σ' S' _ => k σ' S'⟩
    · cases e
  · cases e
end
end Vi

namespace Vi
open PySem L2

section
variable {w : Wd} {xr : Nat → Option Addr → V → Prop} {X : Cx} {W : WX} {b : Bs} {g g2 : Gh} {z z2 : Z} {σ : St} {H H2 : Hp}

/-! ### what is walked -/
def noIt : It := ⟨fun _ _ => False, fun _ _ _ _ => True, fun _ _ => False⟩
def Jof (K : PySem.W.Frag) (k : ItK) (ds : List D) (vs : List V) (n : Nat) : It := match k, ds, vs with
  | .val, [.str s], _ => Its s
  | .val, [.tup _], [.ref a] => Itt K a
  | .val, [_], [.ref a] => Itl K a
  | .range, [.int b], _ => Itr 0 b.toNat
  | .range, [.int a, .int b], _ => Itr a (b - a).toNat
  | .range, [.int a, .int b, .int c], _ => Itc a c ((b - a + c - 1) / c).toNat
  | .enum, [_], [.ref a] => Ite K a
  | .zip, [_, _], [.ref a, .ref c] => Itz K a c
  | .rev, [_], [.ref a] => Itv K a n
  | _, _, _ => noIt
/-- J feeds the items xs, as things stand -/
structure Fed (J : It) (g : Gh) (H : Hp) (xs : List D) : Prop where
  stop : J.stop xs.length H
  go : ∀ i, i < xs.length → J.go i H
  yld : ∀ (i : Nat) (d : D) (x : V) (H' : Hp), xs[i]? = some d → J.yld i H x H' → (H' = H ∧ Rp g.F g.al d x) ∨ ∃ p es us, d = .tup es ∧ x = .ref p ∧ H p = none ∧ H' = upd H p (.tup us) ∧ Rps g.F g.al es us
theorem sq_at {K : PySem.W.Frag} {a : Addr} {ds : List D} {vs : List V} (h : Rd H a (.lst vs)) (r : Rps g.F g.al ds vs) {i : Nat} {x : V} {d : D} (hd : ds[i]? = some d) (hx : ∀ xs, SqL K H a xs → xs[i]? = some x) : Rp g.F g.al d x := by
  obtain ⟨v, h1, h2⟩ := Rps.get r hd
  have := hx vs (.inl h)
  rw [h1] at this; cases this
  exact h2
theorem fed_list {K : PySem.W.Frag} {a : Addr} {ds : List D} {vs : List V} (h : Rd H a (.lst vs)) (r : Rps g.F g.al ds vs) : Fed (Itl K a) g H ds where
  stop := ⟨vs, .inl h, by rw [Rps.length r]; exact Nat.le_refl _⟩
  go := fun i hi => ⟨vs, vs[i]'(by rw [Rps.length r]; exact hi), .inl h, by simp⟩
  yld := fun i d x H' hd hy => .inl ⟨hy.1, sq_at h r hd hy.2⟩
theorem fed_tup {K : PySem.W.Frag} {a : Addr} {ds : List D} {vs : List V} (h : H a = some (.tup vs)) (r : Rps g.F g.al ds vs) : Fed (Itt K a) g H ds where
  stop := ⟨vs, SqT.of h, by rw [Rps.length r]; exact Nat.le_refl _⟩
  go := fun i hi => ⟨vs, vs[i]'(by rw [Rps.length r]; exact hi), SqT.of h, by simp⟩
  yld := fun i d x H' hd hy => .inl ⟨hy.1, by
    obtain ⟨v, h1, h2⟩ := Rps.get r hd
    have := hy.2 vs (SqT.of h)
    rw [h1] at this; cases this
    exact h2⟩
theorem range_get {n i : Nat} {f : Nat → D} {d : D} (h : ((List.range n).map f)[i]? = some d) : i < n ∧ d = f i := by
  rw [List.getElem?_map] at h
  obtain ⟨j, h1, h2⟩ := Option.map_eq_some_iff.mp h
  obtain ⟨h3, h4⟩ := List.getElem?_eq_some_iff.mp h1
  rw [List.length_range] at h3
  rw [List.getElem_range] at h4
  subst h4
  exact ⟨h3, h2.symm⟩
theorem feed {k : ItK} {ds xs : List D} {vs : List V} (S : Sim w xr b g z σ H) (r : Rbs w g H ds vs) (e : srcOf z.os k ds = some xs) : Fed (Jof X.K k ds vs xs.length) g H xs := by
  unfold srcOf at e
  split at e
  · rename_i s
    cases e
    obtain ⟨v, rfl, rx⟩ := rbs1 r
    obtain ⟨_, hs⟩ := rx.str
    refine ⟨?_, fun i hi => ?_, fun i d x H' hd hy => .inl ⟨hy.1, ?_⟩⟩
    · show s.cps.size ≤ _; simp [signs]
    · show i < s.cps.size; simpa [signs] using hi
    · obtain ⟨c, h1, h2⟩ := hy.2
      unfold signs at hd
      rw [List.getElem?_map] at hd
      obtain ⟨c', h3, h4⟩ := Option.map_eq_some_iff.mp hd
      have : c' = c := by
        rw [← Array.getElem?_toList] at h1
        rw [h3] at h1
        exact Option.some.inj h1
      subst this
      subst h2 h4
      refine rp_str (strOk_of hs fun q hq => ?_) _ _
      have : q = c' := by simpa using hq
      subst this
      exact List.mem_of_getElem? h3
  · rename_i es
    cases e
    obtain ⟨v, rfl, rx⟩ := rbs1 r
    obtain ⟨a, us, rfl, r1, r2⟩ := rx.tup S
    exact fed_tup r1 r2
  · rename_i x hns hnt
    obtain ⟨v, rfl, rx⟩ := rbs1 r
    obtain ⟨a, us, rfl, r1, r2⟩ := rdL_of S rx e
    have : Jof X.K .val [x] [V.ref a] xs.length = Itl X.K a := by
      cases x <;> first | rfl | exact absurd rfl (hns _) | exact absurd rfl (hnt _)
    rw [this]
    exact fed_list r1 r2
  · rename_i j
    split at e
    · cases e
      refine ⟨?_, fun i hi => ?_, fun i d x H' hd hy => .inl ⟨hy.1, ?_⟩⟩
      · show j.toNat ≤ _; simp
      · show i < j.toNat; simpa using hi
      · obtain ⟨h1, h2⟩ := range_get hd
        rw [h2, hy.2, Int.zero_add]
        exact rp_int _ _
    · cases e
  · rename_i i0 j
    split at e
    · cases e
      refine ⟨?_, fun i hi => ?_, fun i d x H' hd hy => .inl ⟨hy.1, ?_⟩⟩
      · show (j - i0).toNat ≤ _; simp
      · show i < (j - i0).toNat; simpa using hi
      · obtain ⟨h1, h2⟩ := range_get hd
        rw [h2, hy.2]
        exact rp_int _ _
    · cases e
  · rename_i i0 j c
    split at e
    · cases e
      refine ⟨?_, fun i hi => ?_, fun i d x H' hd hy => .inl ⟨hy.1, ?_⟩⟩
      · show ((j - i0 + c - 1) / c).toNat ≤ _; simp
      · show i < ((j - i0 + c - 1) / c).toNat; simpa using hi
      · obtain ⟨h1, h2⟩ := range_get hd
        rw [h2, hy.2]
        exact rp_int _ _
    · cases e
  · rename_i x
    obtain ⟨es, h1, rfl⟩ := Option.map_eq_some_iff.mp e
    obtain ⟨v, rfl, rx⟩ := rbs1 r
    obtain ⟨a, us, rfl, r1, r2⟩ := rdL_of S rx h1
    have hl := Rps.length r2
    refine ⟨⟨us, .inl r1, by rw [List.length_mapIdx, hl]; exact Nat.le_refl _⟩, fun i hi => ?_, fun i d x' H' hd hy => .inr ?_⟩
    · rw [List.length_mapIdx] at hi
      exact ⟨us, us[i]'(by rw [hl]; exact hi), .inl r1, by simp⟩
    · obtain ⟨T, y, rfl, hT, rfl, hy⟩ := hy
      rw [List.getElem?_mapIdx] at hd
      obtain ⟨d0, h3, h4⟩ := Option.map_eq_some_iff.mp hd
      exact ⟨T, [.int i, d0], [.int i, y], h4.symm, rfl, hT, rfl, Rps.cons (rp_int _ _) (Rps.cons (sq_at r1 r2 h3 hy) Rps.nil)⟩
  · rename_i x y
    obtain ⟨v, u, rfl, rx, ry⟩ := rbs2 r
    split at e
    · rename_i es fs h1 h2
      cases e
      obtain ⟨a, us, rfl, r1, r2⟩ := rdL_of S rx h1
      obtain ⟨c, ws, rfl, r3, r4⟩ := rdL_of S ry h2
      have hl := Rps.length r2
      have hl' := Rps.length r4
      refine ⟨⟨us, ws, .inl r1, .inl r3, ?_⟩, fun i hi => ?_, fun i d x' H' hd hy => .inr ?_⟩
      · rw [List.length_map, List.length_zip, hl, hl']; omega
      · rw [List.length_map, List.length_zip] at hi
        exact ⟨us, ws, us[i]'(by omega), ws[i]'(by omega), .inl r1, .inl r3, by simp, by simp⟩
      · obtain ⟨T, y1, y2, rfl, hT, rfl, hy1, hy2⟩ := hy
        rw [List.getElem?_map] at hd
        obtain ⟨p, h3, h4⟩ := Option.map_eq_some_iff.mp hd
        obtain ⟨h5, h6⟩ := List.getElem?_zip_eq_some.mp h3
        exact ⟨T, [p.1, p.2], [y1, y2], h4.symm, rfl, hT, rfl, Rps.cons (sq_at r1 r2 h5 hy1) (Rps.cons (sq_at r3 r4 h6 hy2) Rps.nil)⟩
    · cases e
  · rename_i x
    obtain ⟨es, h1, rfl⟩ := Option.map_eq_some_iff.mp e
    obtain ⟨v, rfl, rx⟩ := rbs1 r
    obtain ⟨a, us, rfl, r1, r2⟩ := rdL_of S rx h1
    have hl := Rps.length r2
    refine ⟨?_, fun i hi => ?_, fun i d x' H' hd hy => .inl ⟨hy.1, ?_⟩⟩
    · show es.reverse.length ≤ _; exact Nat.le_refl _
    · rw [List.length_reverse] at hi
      refine ⟨by rw [List.length_reverse]; exact hi, us, us[es.reverse.length - 1 - i]'(by rw [List.length_reverse]; omega), .inl r1, by simp⟩
    · have hi : i < es.length := by
        have := (List.getElem?_eq_some_iff.mp hd).1
        rwa [List.length_reverse] at this
      rw [List.getElem?_reverse hi] at hd
      have h2 := hy.2
      rw [List.length_reverse] at h2
      exact sq_at r1 r2 hd h2
  · cases e
end
end Vi

namespace Vi
open PySem L2

section
variable {w : Wd} {xr : Nat → Option Addr → V → Prop} {X : Cx} {W : WX} {b : Bs} {g g2 : Gh} {z z2 : Z} {σ : St} {H H2 : Hp}

def PostI (w : Wd) (xr : Nat → Option Addr → V → Prop) (K : PySem.W.Frag) (W : WX) (b : Bs) (g : Gh) (σ : St) (H : Hp) (k : ItK) (N : It → Hp → Prop) : Vi.R Z (List D) → Prop
  | .ok ds z' => match srcOf z'.os k ds with
    | some xs => ∀ g' H' vs, Stp g H g' H' → Sim w xr b g' z' σ H' → Rbs w g' H' ds vs → N (Jof K k ds vs xs.length) H'
    | none => False
  | .exc c x z' => ∀ g' cls dd H', Stp g H g' H' → Sim w xr b g' z' σ H' → XR w.cad g' c x cls dd H' → W cls dd σ H'
  | .stuck => False
/-- the same of frozen things -/
def PostIF (w : Wd) (xr : Nat → Option Addr → V → Prop) (K : PySem.W.Frag) (W : WX) (b : Bs) (g : Gh) (σ : St) (H : Hp) (k : ItK) (N : It → Hp → Prop) : Vi.R Z (List D) → Prop
  | .ok ds z' => match srcOf z'.os k ds with
    | some xs => ∀ g' H' vs, Stp g H g' H' → Sim w xr b g' z' σ H' → Rsts w xr b g' ds vs → N (Jof K k ds vs xs.length) H'
    | none => False
  | .exc c x z' => ∀ g' cls dd H', Stp g H g' H' → Sim w xr b g' z' σ H' → XR w.cad g' c x cls dd H' → W cls dd σ H'
  | .stuck => False
def SndI (w : Wd) (xr : Nat → Option Addr → V → Prop) (X : Cx) (W : WX) (tg e : Expr) (k : ItK) (f : Z → R Z (List D)) : Prop :=
  ∃ wi, PI X tg e wi ∧ ∀ b g z σ H N, Sim w xr b g z σ H → PostI w xr X.K W b g σ H k N (f z) → wi σ H N
def SndIF (w : Wd) (xr : Nat → Option Addr → V → Prop) (X : Cx) (W : WX) (tg e : Expr) (k : ItK) (f : Z → R Z (List D)) : Prop :=
  ∃ wi, PI X tg e wi ∧ ∀ b g z σ H N, Sim w xr b g z σ H → PostIF w xr X.K W b g σ H k N (f z) → wi σ H N
theorem PI.or {tg e : Expr} {w1 w2 : TI} (h1 : PI X tg e w1) (h2 : PI X tg e w2) : PI X tg e (fun σ H N => w1 σ H N ∨ w2 σ H N) :=
  ⟨fun pins s σ H N I h => h.elim (h1.run pins s σ H N I) (h2.run pins s σ H N I)⟩
theorem Rbs.ofF (S : Sim w xr b g z σ H) : ∀ {ds : List D} {vs : List V}, Rps g.F g.al ds vs → Rbs w g H ds vs
  | [], vs, h => by simpa [Rps, Rbs] using h
  | d :: ds, vs, h => by
    simp only [Rps] at h
    obtain ⟨v, r, rfl, h1, h2⟩ := h
    exact ⟨v, r, rfl, Rb.of S h1, Rbs.ofF S h2⟩
/-- the source by its values: v ↦ what the three walks ask -/
theorem val_src {x : D} {v : V} {xs : List D} {N : It → Hp → Prop} (S : Sim w xr b g z σ H) (rx : Rb w g H x v) (e : srcOf z.os .val [x] = some xs) (k : N (Jof X.K .val [x] [v] xs.length) H) :
    (∃ a, v = .ref a ∧ (∃ xs, SqL X.K H a xs) ∧ N (Itl X.K a) H) ∨ ((∃ a, v = .ref a ∧ (∃ xs, SqT X.K H a xs) ∧ N (Itt X.K a) H) ∨ (∃ s, v = .str s ∧ N (Its s) H)) := by
  cases x with
  | str s =>
    obtain ⟨rfl, hs⟩ := rx.str
    exact .inr (.inr ⟨s, rfl, k⟩)
  | tup ds =>
    obtain ⟨a, us, rfl, r1, r2⟩ := rx.tup S
    exact .inr (.inl ⟨a, rfl, ⟨us, SqT.of r1⟩, k⟩)
  | lst ds =>
    obtain ⟨a, us, rfl, r1, r2⟩ := rx
    exact .inl ⟨a, rfl, ⟨us, .inl (unbox_sub.rd r1)⟩, k⟩
  | box i =>
    simp only [srcOf] at e
    obtain ⟨a, us, rfl, r1, r2⟩ := rdL_of S rx e
    exact .inl ⟨a, rfl, ⟨us, .inl r1⟩, k⟩
  | _ => simp [srcOf, rdL] at e
theorem i_val {cf : CF} {tg e : Expr} {i : E} (h : SndB w xr X W e fun z => fst1 (evalE cf i z)) : SndI w xr X W tg e .val (evalEs cf [i]) := by
  obtain ⟨t, p, q⟩ := h
  refine ⟨_, PI.or (pi_list p) (PI.or (pi_tup p) (pi_str p)), fun b g z σ H N S k => ?_⟩
  simp only [evalEs] at k
  cases r : evalE cf i z with
  | stuck => rw [r] at k; exact k.elim
  | exc c x z' =>
    rw [r] at k
    exact .inl (q b g z σ H _ S (by simp only [fst1]; rw [r]; exact k))
  | ok x z1 =>
    rw [r] at k
    simp only [R.bind_ok, PostI] at k
    split at k
    · rename_i xs e
      obtain ⟨d, fr⟩ := x
      have fin : ∀ g1 v H1, Stp g H g1 H1 → Sim w xr b g1 z1 σ H1 → Rb w g1 H1 d v → N (Jof X.K .val [d] [v] xs.length) H1 := fun g1 v H1 st1 S1 rx => k g1 H1 [v] st1 S1 ⟨v, [], rfl, rx, rfl⟩
      have hq := fun Q h => q b g z σ H Q S h
      simp only [fst1] at hq
      rw [r] at hq
      simp only [R.bind_ok] at hq
      cases d with
      | str s =>
        refine .inr (.inr (hq _ fun g1 v H1 st1 S1 rx => ?_))
        obtain ⟨rfl, hs⟩ := rx.str
        exact ⟨s, rfl, fin g1 _ H1 st1 S1 rx⟩
      | tup ds =>
        refine .inr (.inl (hq _ fun g1 v H1 st1 S1 rx => ?_))
        have rx' := rx
        obtain ⟨a, us, rfl, r1, r2⟩ := rx.tup S1
        exact ⟨a, rfl, ⟨us, SqT.of r1⟩, fin g1 _ H1 st1 S1 rx'⟩
      | lst ds =>
        refine .inl (hq _ fun g1 v H1 st1 S1 rx => ?_)
        have rx' := rx
        obtain ⟨a, us, rfl, r1, r2⟩ := rx
        exact ⟨a, rfl, ⟨us, .inl (unbox_sub.rd r1)⟩, fin g1 _ H1 st1 S1 rx'⟩
      | box i =>
        refine .inl (hq _ fun g1 v H1 st1 S1 rx => ?_)
        have rx' := rx
        simp only [srcOf] at e
        obtain ⟨a, us, rfl, r1, r2⟩ := rdL_of S1 rx e
        exact ⟨a, rfl, ⟨us, .inl r1⟩, fin g1 _ H1 st1 S1 rx'⟩
      | _ => simp [srcOf, rdL] at e
    · exact k.elim
theorem if_val {cf : CF} {tg e : Expr} {i : E} (h : SndN w xr X W e fun z => fst1 (evalE cf i z)) : SndIF w xr X W tg e .val (evalEs cf [i]) := by
  obtain ⟨t, p, q⟩ := h
  refine ⟨_, PI.or (pi_list p) (PI.or (pi_tup p) (pi_str p)), fun b g z σ H N S k => ?_⟩
  simp only [evalEs] at k
  cases r : evalE cf i z with
  | stuck => rw [r] at k; exact k.elim
  | exc c x z' =>
    rw [r] at k
    exact .inl (q b g z σ H _ S (by simp only [fst1]; rw [r]; exact k))
  | ok x z1 =>
    rw [r] at k
    simp only [R.bind_ok, PostIF] at k
    split at k
    · rename_i xs e
      obtain ⟨d, fr⟩ := x
      have fin : ∀ g1 v H1, Stp g H g1 H1 → Sim w xr b g1 z1 σ H1 → Rst w xr b g1 d v → N (Jof X.K .val [d] [v] xs.length) H1 := fun g1 v H1 st1 S1 rx => k g1 H1 [v] st1 S1 ⟨v, [], rfl, rx, rfl⟩
      have hq := fun Q h => q b g z σ H Q S h
      simp only [fst1] at hq
      rw [r] at hq
      simp only [R.bind_ok] at hq
      cases d with
      | str s =>
        refine .inr (.inr (hq _ fun g1 v H1 st1 S1 rx => ?_))
        obtain ⟨rfl, hs⟩ := (rx _ _ _ _ (.refl _) S1).str
        exact ⟨s, rfl, fin g1 _ H1 st1 S1 rx⟩
      | tup ds =>
        refine .inr (.inl (hq _ fun g1 v H1 st1 S1 rx => ?_))
        obtain ⟨a, us, rfl, r1, r2⟩ := (rx _ _ _ _ (.refl _) S1).tup S1
        exact ⟨a, rfl, ⟨us, SqT.of r1⟩, fin g1 _ H1 st1 S1 rx⟩
      | lst ds =>
        refine .inl (hq _ fun g1 v H1 st1 S1 rx => ?_)
        obtain ⟨a, us, rfl, r1, r2⟩ := rx _ _ _ _ (.refl _) S1
        exact ⟨a, rfl, ⟨us, .inl (unbox_sub.rd r1)⟩, fin g1 _ H1 st1 S1 rx⟩
      | box i =>
        refine .inl (hq _ fun g1 v H1 st1 S1 rx => ?_)
        simp only [srcOf] at e
        obtain ⟨a, us, rfl, r1, r2⟩ := rdL_of S1 (rx _ _ _ _ (.refl _) S1) e
        exact ⟨a, rfl, ⟨us, .inl r1⟩, fin g1 _ H1 st1 S1 rx⟩
      | _ => simp [srcOf, rdL] at e
    · exact k.elim

theorem small_up {a c d : Int} (h1 : -(2 ^ 61) ≤ a) (h2 : a < 2 ^ 61) (h3 : -(2 ^ 61) ≤ c) (h4 : c < 2 ^ 61) (h5 : 0 < d) (h6 : d < 1000000) : RgC a c d ((c - a + d - 1) / d).toNat := by
  have e : Builtin.Range.rangeSize a c d = (((c - a + d - 1) / d).toNat : Int) := by
    unfold Builtin.Range.rangeSize
    rw [if_pos h5]
    split
    · rename_i h
      have : (c - a + d - 1) / d = (c - a - 1) / d + 1 := by
        rw [show c - a + d - 1 = (c - a - 1) + 1 * d by omega, Int.add_mul_ediv_right _ _ (by omega)]
      rw [this]
      have : 0 ≤ (c - a - 1) / d := Int.ediv_nonneg (by omega) (by omega)
      omega
    · rename_i h
      have : (c - a + d - 1) / d < 1 := Int.ediv_lt_of_lt_mul h5 (by omega)
      omega
  have hb : (((c - a + d - 1) / d).toNat : Int) ≤ 2 ^ 63 - 1 := by
    have : (c - a + d - 1) / d ≤ 2 ^ 63 - 1 := by
      by_cases hh : 0 ≤ c - a + d - 1
      · exact Int.le_trans (Int.ediv_le_self _ hh) (by omega)
      · have : (c - a + d - 1) / d < 1 := Int.ediv_lt_of_lt_mul h5 (by omega)
        omega
    omega
  refine ⟨by omega, by omega, ?_, e⟩
  unfold Builtin.Range.small
  rw [e, if_pos h5]
  simp only [Builtin.Range.rangeFitsLong, Bool.and_eq_true, Bool.or_eq_true, decide_eq_true_eq, beq_iff_eq]
  omega

/-! range, enumerate, zip, reversed -/
theorem i_call {cf : CF} {k : ItK} {tg e : Expr} {es : List Expr} {is : List E} {r : List V → Hp → (It → Hp → Prop) → Prop} (h : SndA w xr X W es (evalEs cf is)) (hpi : ∀ ta, PA X es ta → PI X tg e (fun σ H N => ta σ H fun vs H1 => r vs H1 N))
    (hr : ∀ b g z σ H N ds xs vs, ds.length = is.length → Sim w xr b g z σ H → Rbs w g H ds vs → srcOf z.os k ds = some xs → N (Jof X.K k ds vs xs.length) H → r vs H N) : SndI w xr X W tg e k (evalEs cf is) := by
  obtain ⟨t, p, q⟩ := h
  refine ⟨_, hpi t p, fun b g z σ H N S kk => q b g z σ H _ S ?_⟩
  cases e : evalEs cf is z with
  | stuck => rw [e] at kk; exact kk.elim
  | exc c x z' => rw [e] at kk; exact kk
  | ok ds z1 =>
    rw [e] at kk
    simp only [PostI] at kk
    split at kk
    · rename_i xs hs
      exact fun g1 vs H1 st1 S1 rs => hr b g1 z1 σ H1 N ds xs vs (evalEs_length _ _ _ _ e) S1 rs hs (kk g1 H1 vs st1 S1 rs)
    · exact kk.elim
theorem if_call {cf : CF} {k : ItK} {tg e : Expr} {es : List Expr} {is : List E} {r : List V → Hp → (It → Hp → Prop) → Prop} (h : SndAN w xr X W es (evalEs cf is)) (hpi : ∀ ta, PA X es ta → PI X tg e (fun σ H N => ta σ H fun vs H1 => r vs H1 N))
    (hr : ∀ b g z σ H N ds xs vs, ds.length = is.length → Sim w xr b g z σ H → Rbs w g H ds vs → srcOf z.os k ds = some xs → N (Jof X.K k ds vs xs.length) H → r vs H N) : SndIF w xr X W tg e k (evalEs cf is) := by
  obtain ⟨t, p, q⟩ := h
  refine ⟨_, hpi t p, fun b g z σ H N S kk => q b g z σ H _ S ?_⟩
  cases e : evalEs cf is z with
  | stuck => rw [e] at kk; exact kk.elim
  | exc c x z' => rw [e] at kk; exact kk
  | ok ds z1 =>
    rw [e] at kk
    simp only [PostIF] at kk
    split at kk
    · rename_i xs hs
      exact fun g1 vs H1 st1 S1 rs => hr b g1 z1 σ H1 N ds xs vs (evalEs_length _ _ _ _ e) S1 (rs.rbs (.refl _) S1) hs (kk g1 H1 vs st1 S1 rs)
    · exact kk.elim
def rRng1 : List V → Hp → (It → Hp → Prop) → Prop := fun vs H1 N => ∃ j : Int, vs = [.int j] ∧ -(2 ^ 62) ≤ j ∧ j < 2 ^ 62 ∧ N (Itr 0 j.toNat) H1
def rRng2 : List V → Hp → (It → Hp → Prop) → Prop := fun vs H1 N => ∃ i j : Int, vs = [.int i, .int j] ∧ (-(2 ^ 62) ≤ i ∧ i < 2 ^ 62 ∧ -(2 ^ 62) ≤ j ∧ j < 2 ^ 62) ∧ N (Itr i (j - i).toNat) H1
def rRng3 : List V → Hp → (It → Hp → Prop) → Prop := fun vs H1 N => ∃ (i j c : Int) (n : Nat), vs = [.int i, .int j, .int c] ∧ RgC i j c n ∧ N (Itc i c n) H1
def rEnum (K : PySem.W.Frag) : List V → Hp → (It → Hp → Prop) → Prop := fun vs H1 N => ∃ a xs, vs = [.ref a] ∧ SqL K H1 a xs ∧ N (Ite K a) H1
def rZip (K : PySem.W.Frag) : List V → Hp → (It → Hp → Prop) → Prop := fun vs H1 N => ∃ a b xs ys, vs = [.ref a, .ref b] ∧ SqL K H1 a xs ∧ SqL K H1 b ys ∧ N (Itz K a b) H1
def rRevs (K : PySem.W.Frag) : List V → Hp → (It → Hp → Prop) → Prop := fun vs H1 N => ∃ (a : Addr) (xs : List V), vs = [.ref a] ∧ SqL K H1 a xs ∧ N (Itv K a xs.length) H1
theorem hr_rng1 : ∀ b g z σ H N ds xs vs, ds.length = 1 → Sim w xr b g z σ H → Rbs w g H ds vs → srcOf z.os .range ds = some xs → N (Jof X.K .range ds vs xs.length) H → rRng1 vs H N := by
  intro b g z σ H N ds xs vs hl S r e k
  cases ds with
  | nil => simp at hl
  | cons d ds =>
    cases ds with
    | cons _ _ => simp at hl
    | nil =>
      obtain ⟨v, rfl, rx⟩ := rbs1 r
      cases d with
      | int j =>
        rw [rx.int]
        simp only [srcOf] at e
        split at e
        · rename_i h
          exact ⟨j, rfl, h.1, h.2, k⟩
        · cases e
      | _ => simp [srcOf] at e
theorem hr_rng2 : ∀ b g z σ H N ds xs vs, ds.length = 2 → Sim w xr b g z σ H → Rbs w g H ds vs → srcOf z.os .range ds = some xs → N (Jof X.K .range ds vs xs.length) H → rRng2 vs H N := by
  intro b g z σ H N ds xs vs hl S r e k
  match ds, hl with
  | [d, d'], _ =>
    obtain ⟨v, u, rfl, rx, ry⟩ := rbs2 r
    cases d with
    | int i =>
      cases d' with
      | int j =>
        rw [rx.int, ry.int]
        simp only [srcOf] at e
        split at e
        · rename_i h
          exact ⟨i, j, rfl, h, k⟩
        · cases e
      | _ => simp [srcOf] at e
    | _ => simp [srcOf] at e
theorem hr_rng3 : ∀ b g z σ H N ds xs vs, ds.length = 3 → Sim w xr b g z σ H → Rbs w g H ds vs → srcOf z.os .range ds = some xs → N (Jof X.K .range ds vs xs.length) H → rRng3 vs H N := by
  intro b g z σ H N ds xs vs hl S r e k
  match ds, hl with
  | [d, d', d''], _ =>
    obtain ⟨v, _, rfl, rx, r⟩ := r
    obtain ⟨u, t, rfl, ry, rz⟩ := rbs2 r
    cases d with
    | int i =>
      cases d' with
      | int j =>
        cases d'' with
        | int c =>
          rw [rx.int, ry.int, rz.int]
          simp only [srcOf] at e
          split at e
          · rename_i h
            exact ⟨i, j, c, _, rfl, small_up h.1 h.2.1 h.2.2.1 h.2.2.2.1 h.2.2.2.2.1 h.2.2.2.2.2, k⟩
          · cases e
        | _ => simp [srcOf] at e
      | _ => simp [srcOf] at e
    | _ => simp [srcOf] at e
theorem hr_enum : ∀ b g z σ H N ds xs vs, ds.length = 1 → Sim w xr b g z σ H → Rbs w g H ds vs → srcOf z.os .enum ds = some xs → N (Jof X.K .enum ds vs xs.length) H → rEnum X.K vs H N := by
  intro b g z σ H N ds xs vs hl S r e k
  match ds, hl with
  | [x], _ =>
    simp only [srcOf] at e
    obtain ⟨es, h1, rfl⟩ := Option.map_eq_some_iff.mp e
    obtain ⟨v, rfl, rx⟩ := rbs1 r
    obtain ⟨a, us, rfl, r1, r2⟩ := rdL_of S rx h1
    exact ⟨a, us, rfl, .inl r1, k⟩
theorem hr_zip : ∀ b g z σ H N ds xs vs, ds.length = 2 → Sim w xr b g z σ H → Rbs w g H ds vs → srcOf z.os .zip ds = some xs → N (Jof X.K .zip ds vs xs.length) H → rZip X.K vs H N := by
  intro b g z σ H N ds xs vs hl S r e k
  match ds, hl with
  | [x, y], _ =>
    simp only [srcOf] at e
    obtain ⟨v, u, rfl, rx, ry⟩ := rbs2 r
    split at e
    · rename_i es fs h1 h2
      obtain ⟨a, us, rfl, r1, r2⟩ := rdL_of S rx h1
      obtain ⟨c, ws, rfl, r3, r4⟩ := rdL_of S ry h2
      exact ⟨a, c, us, ws, rfl, .inl r1, .inl r3, k⟩
    · cases e
theorem hr_rev : ∀ b g z σ H N ds xs vs, ds.length = 1 → Sim w xr b g z σ H → Rbs w g H ds vs → srcOf z.os .rev ds = some xs → N (Jof X.K .rev ds vs xs.length) H → rRevs X.K vs H N := by
  intro b g z σ H N ds xs vs hl S r e k
  match ds, hl with
  | [x], _ =>
    simp only [srcOf] at e
    obtain ⟨es, h1, rfl⟩ := Option.map_eq_some_iff.mp e
    obtain ⟨v, rfl, rx⟩ := rbs1 r
    obtain ⟨a, us, rfl, r1, r2⟩ := rdL_of S rx h1
    refine ⟨a, us, rfl, .inl r1, ?_⟩
    have : us.length = es.reverse.length := by rw [Rps.length r2, List.length_reverse]
    rw [this]
    exact k
end
end Vi

namespace Vi
open PySem L2

section
variable {w : Wd} {xr : Nat → Option Addr → V → Prop} {X : Cx} {W : WX} {b : Bs} {g g1 g2 : Gh} {z z1 z2 : Z} {σ : St} {H H1 H2 : Hp}

theorem Sim.drop1 (S : Sim w xr b g z σ H) (v : Nat) : Sim w xr b g { z with env := z.env.set v .no } (σ.set v none) H := by
  refine ⟨S.sub, S.new, S.kept, S.pF, S.pre, S.alnew, S.alF, S.nd, S.box, by simp [S.len], by simp [S.ln], fun j e he => ?_, fun j k e e' hjk h1 h2 o1 o2 => ?_, S.rs⟩
  · by_cases hj : v = j
    · subst hj
      by_cases hl : v < z.env.length
      · rw [List.getElem?_set_self hl] at he; cases he; trivial
      · rw [List.getElem?_eq_none (by simpa using hl)] at he; cases he
    · rw [List.getElem?_set_ne hj] at he ⊢
      exact S.ent j e he
  · have f : ∀ {j : Nat} {e : Ent}, (z.env.set v .no)[j]? = some e → e.owns = true → v ≠ j ∧ z.env[j]? = some e := fun {j e} h o => by
      by_cases hj : v = j
      · subst hj
        by_cases hl : v < z.env.length
        · rw [List.getElem?_set_self hl] at h; cases h; cases o
        · rw [List.getElem?_eq_none (by simpa using hl)] at h; cases h
      · exact ⟨hj, by rwa [List.getElem?_set_ne hj] at h⟩
    obtain ⟨n1, q1⟩ := f h1 o1
    obtain ⟨n2, q2⟩ := f h2 o2
    have ad : ∀ {j : Nat}, v ≠ j → sad (σ.set v none) j = sad σ j := fun {j} hj => by
      unfold sad; rw [List.getElem?_set_ne hj]
    rw [ad n1, ad n2]
    exact S.dis j k e e' hjk q1 q2 o1 o2
theorem Sim.wiped (S : Sim w xr b g z σ H) : ∀ vs : List Nat, Sim w xr b g { z with env := wipeE z.env vs } (wipe σ vs) H
  | [] => S
  | v :: vs => by
    have := (S.wiped vs).drop1 v
    exact this
theorem wipe_len (σ : St) (vs : List Nat) : (wipe σ vs).length = σ.length := wipe_length σ vs
theorem wipe_get {i : Nat} : ∀ {vs : List Nat} {σ : St}, i ∉ vs → (wipe σ vs)[i]? = σ[i]?
  | [], σ, _ => rfl
  | v :: vs, σ, h => by
    simp only [List.mem_cons, not_or] at h
    unfold wipe
    rw [List.getElem?_set_ne (Ne.symm h.1), wipe_get h.2]
theorem wipe_at {i : Nat} : ∀ {vs : List Nat} {σ : St}, i ∈ vs → i < σ.length → (wipe σ vs)[i]? = some none
  | v :: vs, σ, h, hl => by
    unfold wipe
    by_cases e : v = i
    · subst e
      rw [List.getElem?_set_self (by rw [wipe_length]; exact hl)]
    · rw [List.getElem?_set_ne e]
      rcases List.mem_cons.mp h with q | q
      · exact absurd q.symm e
      · exact wipe_at q hl
theorem wipe_idem (σ : St) (vs : List Nat) : wipe (wipe σ vs) vs = wipe σ vs := by
  apply List.ext_getElem?
  intro i
  by_cases hi : i ∈ vs
  · by_cases hl : i < σ.length
    · rw [wipe_at hi (by rw [wipe_length]; exact hl), wipe_at hi hl]
    · rw [List.getElem?_eq_none (by rw [wipe_length, wipe_length]; omega), List.getElem?_eq_none (by rw [wipe_length]; omega)]
  · rw [wipe_get hi]
theorem back_get {old env : List Ent} {i : Nat} : ∀ {vs : List Nat}, i ∉ vs → (backE old env vs)[i]? = env[i]?
  | [], _ => rfl
  | v :: vs, h => by
    simp only [List.mem_cons, not_or] at h
    unfold backE
    rw [List.getElem?_set_ne (Ne.symm h.1), back_get h.2]
theorem back_len (old env : List Ent) : ∀ vs : List Nat, (backE old env vs).length = env.length
  | [] => rfl
  | v :: vs => by unfold backE; rw [List.length_set, back_len old env vs]
theorem back_at {old env : List Ent} {i : Nat} {e : Ent} : ∀ {vs : List Nat}, i ∈ vs → (backE old env vs)[i]? = some e → e = .no ∨ (old[i]? = some e ∧ e.owns = false)
  | v :: vs, h, q => by
    unfold backE at q
    by_cases hv : v = i
    · subst hv
      by_cases hl : v < (backE old env vs).length
      · rw [List.getElem?_set_self hl] at q
        cases q
        split
        · rename_i e0 he
          split
          · exact .inl rfl
          · rename_i ho
            exact .inr ⟨by first | exact he | rfl, by simpa using ho⟩
        · exact .inl rfl
      · rw [List.getElem?_eq_none (by simpa using hl)] at q; cases q
    · rw [List.getElem?_set_ne hv] at q
      rcases List.mem_cons.mp h with e' | e'
      · exact absurd e'.symm hv
      · exact back_at e' q
/-- behind a comprehension -/
theorem Sim.back {c : Addr} (S1 : Sim w xr b g1 z1 σ H1) {vs : List Nat} (S : Sim w xr { b with rs := c :: b.rs } g z (wipe σ vs) H) (st : Stp g1 H1 g H) : Sim w xr b g ⟨backE z1.env z.env vs, z.os⟩ σ H := by
  have ent : ∀ (i : Nat) (e : Ent), (backE z1.env z.env vs)[i]? = some e → EntRel w b g H xr e σ[i]? ∧ (e.owns = true → i ∉ vs ∧ z.env[i]? = some e) := fun i e he => by
    by_cases hi : i ∈ vs
    · rcases back_at hi he with rfl | ⟨h1, h2⟩
      · exact ⟨trivial, fun o => by cases o⟩
      · refine ⟨(S1.ent i e h1).mono st fun a v e1 ho _ => (by rw [h2] at ho; cases ho), fun o => (by rw [h2] at o; cases o)⟩
    · rw [back_get hi] at he
      have q := S.ent i e he
      rw [wipe_get hi] at q
      refine ⟨?_, fun _ => ⟨hi, he⟩⟩
      cases e with
      | no => trivial
      | ex c x => exact q
      | bor d => exact q
      | val d fr =>
        obtain ⟨v, e1, e2⟩ := q
        refine ⟨v, e1, ?_⟩
        unfold ValRel at e2 ⊢
        split
        · rename_i hc
          rw [if_pos hc] at e2
          obtain ⟨a, ea, o⟩ := e2
          exact ⟨a, ea, ⟨o.nF, o.nB, o.nH, fun q => o.nR (List.mem_cons_of_mem _ q), o.cl⟩⟩
        · rename_i hc
          rw [if_neg hc] at e2
          exact e2
  refine ⟨S.sub, S.new, S.kept, S.pF, S.pre, S.alnew, S.alF, S.nd, S.box, by rw [back_len, S.len, wipe_length], S1.ln, fun i e he => (ent i e he).1, fun i j e e' hij h1 h2 o1 o2 => ?_, fun a ha => S.rs a (List.mem_cons_of_mem _ ha)⟩
  obtain ⟨n1, q1⟩ := (ent i e h1).2 o1
  obtain ⟨n2, q2⟩ := (ent j e' h2).2 o2
  have := S.dis i j e e' hij q1 q2 o1 o2
  unfold sad at this ⊢
  rw [wipe_get n1, wipe_get n2] at this
  exact this
/-- a list in the making is changed -/
theorem Sim.updR {c : Addr} (S : Sim w xr b g z σ H) (hc : c ∈ b.rs) (hn : b.H c = none) (o : HO) : Sim w xr b g z σ (upd H c o) := by
  obtain ⟨nF, nB, u, hu⟩ := S.rs c hc
  have k : ∀ a v, a ≠ c → H a = some v → upd H c o a = some v := fun a v n e => by rw [upd_ne n]; exact e
  refine ⟨fun a v e => k a v (fun q => by subst q; rw [nF] at e; cases e) (S.sub a v e), S.new, fun a v e n => k a v (fun q => by subst q; rw [hn] at e; cases e) (S.kept a v e n), S.pF, S.pre, S.alnew, S.alF, S.nd, ?_, S.len, S.ln, fun i e he => ?_, S.dis, fun a ha => ?_⟩
  · have : ∀ {xs : List Bx} {ys : List Addr}, (∀ y ∈ ys, y ≠ c) → Paired (BxRel w.cad b.lk g.F g.al H) xs ys → Paired (BxRel w.cad b.lk g.F g.al (upd H c o)) xs ys := by
      intro xs ys hy p
      induction p with
      | nil => exact .nil
      | cons a t ih => exact .cons (a.mono (.refl _) (.refl _) fun v e => k _ v (hy _ (by simp)) e) (ih fun y h => hy y (List.mem_cons_of_mem _ h))
    exact this (fun y h q => nB (q ▸ h)) S.box
  · have q := S.ent i e he
    cases e with
    | no => trivial
    | ex c x => exact q
    | bor d => exact q
    | val d fr =>
      obtain ⟨v, e1, e2⟩ := q
      refine ⟨v, e1, ?_⟩
      unfold ValRel at e2 ⊢
      split
      · rename_i hcc
        rw [if_pos hcc] at e2
        obtain ⟨a, ea, ow⟩ := e2
        exact ⟨a, ea, ⟨ow.nF, ow.nB, ow.nH, ow.nR, ow.cl.mono (.refl _) (.refl _) fun v e => k _ v (fun q => ow.nR (q ▸ hc)) e⟩⟩
      · rename_i hcc
        rw [if_neg hcc] at e2
        exact e2
  · obtain ⟨h1, h2, v, h3⟩ := S.rs a ha
    by_cases e : a = c
    · subst e; exact ⟨h1, h2, o, upd_same⟩
    · exact ⟨h1, h2, v, k a v e h3⟩
/-- a new tuple, as a thing of its own -/
theorem Sim.newTup {ds : List D} {vs : List V} {p : Addr} (S : Sim w xr b g z σ H) (hp : H p = none) (hc : Rps g.F g.al ds vs) :
    ∃ g', Stp g H g' (upd H p (.tup vs)) ∧ Sim w xr b g' z σ (upd H p (.tup vs)) ∧ Rp g'.F g'.al (.tup ds) (.ref p) := by
  have := PostE.tup (W := fun _ _ _ _ => False) (Q := fun v H' => ∃ g', Stp g H g' H' ∧ Sim w xr b g' z σ H' ∧ Rp g'.F g'.al (.tup ds) v) S hp hc fun g' v H' st S' tm => ⟨g', st, S', tm.rp⟩
  exact this
theorem still_get {os os' : Os} : ∀ {ds : List D}, still os' (boxesOf os ds) → ∀ d ∈ ds, ∀ i x, d = .box i → os[i]? = some x → os'[i]? = some x := by
  intro ds h d hd i x e hx
  subst e
  exact h (i, x) (by
    unfold boxesOf
    refine List.mem_filterMap.mpr ⟨_, hd, ?_⟩
    simp [hx])
theorem still_rdL {os os' : Os} {ds : List D} (h : still os' (boxesOf os ds)) {d : D} (hd : d ∈ ds) {es : List D} (e : rdL os d = some es) : rdL os' d = some es := by
  cases d with
  | box i =>
    simp only [rdL] at e ⊢
    split at e
    · rename_i es' hi
      cases e
      rw [still_get h _ hd i _ rfl hi]
    · cases e
  | _ => exact e
theorem still_src {os os' : Os} {k : ItK} {ds xs : List D} (h : still os' (boxesOf os ds)) (e : srcOf os k ds = some xs) : srcOf os' k ds = some xs := by
  have r := fun {d : D} (hd : d ∈ ds) {es : List D} (e : rdL os d = some es) => still_rdL h hd e
  unfold srcOf at e ⊢
  split at e
  · exact e
  · exact e
  · rename_i x h1 h2
    have := r (d := x) (by simp) e
    exact this
  · exact e
  · exact e
  · exact e
  · rename_i x
    obtain ⟨es, h1, h2⟩ := Option.map_eq_some_iff.mp e
    exact Option.map_eq_some_iff.mpr ⟨es, r (by simp) h1, h2⟩
  · rename_i x y
    split at e
    · rename_i es fs h1 h2
      rw [r (d := x) (by simp) h1, r (d := y) (by simp) h2]
      exact e
    · cases e
  · rename_i x
    obtain ⟨es, h1, h2⟩ := Option.map_eq_some_iff.mp e
    exact Option.map_eq_some_iff.mpr ⟨es, r (by simp) h1, h2⟩
  · cases e
end
end Vi

namespace Vi
open PySem L2

abbrev W0 : WX := fun _ _ _ _ => False
/-- where a comprehension's block runs -/
structure BC where
  s : Shared
  H : Hp
  C : Addr
  cl : List (Str × Addr)
  fp : List Addr
abbrev blkOf (X : Cx) (scope : Scope) (c : BC) : Cx := X.blk c.s c.H scope (compEnvC scope c.cl c.C X.env) c.fp
theorem PE.mono {X : Cx} {e : Expr} {t t' : TE} (h : PE X e t) (k : ∀ σ H Q, t' σ H Q → t σ H Q) : PE X e t' := ⟨fun pins s σ H Q I q => h.run pins s σ H Q I (k σ H Q q)⟩
theorem PTs.mono {X : Cx} {e : List Expr} {t t' : TT} (h : PTs X e t) (k : ∀ σ H Q, t' σ H Q → t σ H Q) : PTs X e t' := ⟨fun pins s σ H Q I q => h.run pins s σ H Q I (k σ H Q q)⟩
theorem PG.mono {X : Cx} {e : Expr} {t t' : TG} (h : PG X e t) (k : ∀ v σ H Q, t' v σ H Q → t v σ H Q) : PG X e t' := ⟨fun pins s σ H v u Q I r q => h.run pins s σ H v u Q I r (k v σ H Q q)⟩
/-- the tests of a comprehension -/
def SndTs (w : Wd) (xr : Nat → Option Addr → V → Prop) (X : Cx) (W : WX) (es : List Expr) (f : Z → R Z (D × Bool)) : Prop :=
  ∃ t, PTs X es t ∧ ∀ b g z σ H Q, Sim w xr b g z σ H → PostT w xr W b g σ H Q (f z) → t σ H Q

section
variable {w : Wd} {xr : Nat → Option Addr → V → Prop} {X : Cx} {W : WX} {b : Bs} {g g1 g2 : Gh} {z z1 z2 : Z} {σ : St} {H H1 H2 : Hp}
theorem ts_nil : SndTs w xr X W [] yesZ := ⟨_, pts_nil, fun b g z σ H Q S k => k g H (.refl _ _) S⟩
theorem ts_one {e : Expr} {f : Z → R Z (D × Bool)} (h : SndT w xr X W e f) : SndTs w xr X W [e] f := by
  obtain ⟨t, p, q⟩ := h
  exact ⟨t, pts_one p, q⟩

/-- what a comprehension asks once its source stands -/
theorem comp_hr {t : Tg} {k : ItK} {fc fe : Z → R Z (D × Bool)} {ds xs : List D} {vs : List V} {Q : VK} {gU : TG} {tU : TT} {eU : TE}
    (hg : ∀ b g z σ H d v env' (Q : St → Hp → Prop), Sim w xr b g z σ H → Rp g.F g.al d v → setT t d z.env = some env' →
      (∀ σ', Sim w xr b g { z with env := env' } σ' H → (∀ vs, (∀ i ∈ t.slots, i ∈ vs) → wipe σ' vs = wipe σ vs) → Q σ' H) → gU v σ H Q)
    (ht : ∀ b g z σ H Q, Sim w xr b g z σ H → PostT w xr W0 b g σ H Q (fc z) → tU σ H Q)
    (he : ∀ b g z σ H Q, Sim w xr b g z σ H → PostF w xr W0 b g σ H Q (fst1 (fe z)) → eU σ H Q)
    (S1 : Sim w xr b g1 z1 σ H1) (rs : Rbs w g1 H1 ds vs) (hsrc : srcOf z1.os k ds = some xs) (kp : PostE w xr W b g1 σ H1 Q (compK t k fc fe ds z1)) (D0 : Addr) (hD : H1 D0 = none) :
    ∃ M : Nat → Nat → Hp → Prop, (∃ m, M 0 m (upd H1 D0 (.lst []))) ∧ ∀ i m H, M i m H →
      ((Jof X.K k ds vs xs.length).stop i H ∧ Q (.ref D0) H) ∨ ((Jof X.K k ds vs xs.length).go i H ∧ ∃ Nx : Hp → Prop, (∀ H', Nx H' → ∃ m', m' < m ∧ M (i + 1) m' H') ∧ ∀ x H', (Jof X.K k ds vs xs.length).yld i H x H' → gU x (wipe σ t.slots) H' fun σ2 H2 => wipe σ2 t.slots = wipe σ t.slots ∧ tU σ2 H2 fun c H3 =>
        if c = true then eU σ2 H3 fun y H4 => ∃ acc, H4 D0 = some (.lst acc) ∧ acc.length < sizeLine ∧ Nx (upd H4 D0 (.lst (acc ++ [y]))) else Nx H3) := by
  unfold compK at kp
  rw [hsrc] at kp
  simp only [compZ] at kp
  cases hfin : compL t (eltIf fc fe) (boxesOf z1.os ds) xs [] ⟨wipeE z1.env t.slots, z1.os⟩ with
  | stuck => rw [hfin] at kp; exact kp.elim
  | exc c x z' => rw [hfin] at kp; exact kp.elim
  | ok ys z2 =>
    rw [hfin] at kp
    simp only at kp
    have nB : b.H D0 = none := S1.freshH hD
    refine ⟨fun i m H => ∃ (g : Gh) (z : Z) (acc : List D) (av : List V), Sim w xr { b with rs := D0 :: b.rs } g z (wipe σ t.slots) H ∧ Stp g1 H1 g H ∧ H D0 = some (.lst av) ∧ Rps g.F g.al acc av ∧ i ≤ xs.length ∧ m = xs.length - i ∧
      compL t (eltIf fc fe) (boxesOf z1.os ds) (xs.drop i) acc z = .ok ys z2, ⟨xs.length, g1, ⟨wipeE z1.env t.slots, z1.os⟩, [], [], ?_, Stp.alloc hD, upd_same, Rps.nil, Nat.zero_le _, rfl, hfin⟩, fun i m H hM => ?_⟩
    · have Sw := (S1.alloc (o := .lst []) hD).wiped t.slots
      refine ⟨Sw.sub, Sw.new, Sw.kept, Sw.pF, Sw.pre, Sw.alnew, Sw.alF, Sw.nd, Sw.box, Sw.len, Sw.ln, fun i e he => ?_, Sw.dis, fun a ha => ?_⟩
      · have q := Sw.ent i e he
        cases e with
        | no => trivial
        | ex c x => exact q
        | bor d => exact q
        | val d fr =>
          obtain ⟨v, e1, e2⟩ := q
          refine ⟨v, e1, ?_⟩
          unfold ValRel at e2 ⊢
          split
          · rename_i hc
            rw [if_pos hc] at e2
            obtain ⟨a, ea, ow⟩ := e2
            refine ⟨a, ea, ⟨ow.nF, ow.nB, ow.nH, fun q => ?_, ow.cl⟩⟩
            rcases List.mem_cons.mp q with q | q
            · subst q
              subst ea
              have hl := (List.getElem?_eq_some_iff.mp e1).1
              rw [wipe_length] at hl
              by_cases hi : i ∈ t.slots
              · rw [wipe_at hi hl] at e1; cases e1
              · rw [wipe_get hi] at e1
                have he' : z1.env[i]? = some (.val d fr) := by
                  have : ∀ vs : List Nat, i ∉ vs → (wipeE z1.env vs)[i]? = z1.env[i]? := by
                    intro vs
                    induction vs with
                    | nil => intro _; rfl
                    | cons v vs ih =>
                      intro h
                      simp only [List.mem_cons, not_or] at h
                      unfold wipeE
                      rw [List.getElem?_set_ne (Ne.symm h.1), ih h.2]
                  rw [← this t.slots hi]; exact he
                obtain ⟨a', q1, _, q3⟩ := S1.ownAt he' hc
                rw [e1] at q1; cases q1
                obtain ⟨u, hu⟩ := q3.cl.there
                rw [hD] at hu; cases hu
            · exact ow.nR q
          · rename_i hc
            rw [if_neg hc] at e2
            exact e2
      · rcases List.mem_cons.mp ha with h | h
        · subst h; exact ⟨S1.freshF hD, S1.freshB hD, _, upd_same⟩
        · exact Sw.rs a h
    · obtain ⟨g, z, acc, av, S, st, hav, hr, hi, rfl, hrun⟩ := hM
      have rs' : Rbs w g H ds vs := rs.mono st
      have fd : ∀ (h : still z.os (boxesOf z1.os ds)), Fed (Jof X.K k ds vs xs.length) g H xs := fun h => feed S rs' (still_src h hsrc)
      by_cases hlt : i < xs.length
      · right
        rw [List.drop_eq_getElem_cons hlt] at hrun
        simp only [compL] at hrun
        split at hrun
        · rename_i hst
          have F := fd hst
          refine ⟨F.go i hlt, fun H' => ∃ (g : Gh) (z : Z) (acc : List D) (av : List V), Sim w xr { b with rs := D0 :: b.rs } g z (wipe σ t.slots) H' ∧ Stp g1 H1 g H' ∧ H' D0 = some (.lst av) ∧ Rps g.F g.al acc av ∧ compL t (eltIf fc fe) (boxesOf z1.os ds) (xs.drop (i + 1)) acc z = .ok ys z2,
            fun H' ⟨g, z, acc, av, a1, a2, a3, a4, a5⟩ => ⟨xs.length - (i + 1), by omega, g, z, acc, av, a1, a2, a3, a4, by omega, rfl, a5⟩, fun x H' hy => ?_⟩
          obtain ⟨g', st', S', hx⟩ : ∃ g', Stp g H g' H' ∧ Sim w xr { b with rs := D0 :: b.rs } g' z (wipe σ t.slots) H' ∧ Rp g'.F g'.al xs[i] x := by
            rcases F.yld i xs[i] x H' (by simp) hy with ⟨rfl, h⟩ | ⟨p, es, us, h1, rfl, h2, rfl, h3⟩
            · exact ⟨g, .refl _ _, S, h⟩
            · obtain ⟨g', a1, a2, a3⟩ := S.newTup h2 h3
              exact ⟨g', a1, a2, by rw [h1]; exact a3⟩
          split at hrun
          · rename_i env' henv
            refine hg _ g' z (wipe σ t.slots) H' xs[i] x env' _ S' hx henv fun σ2 S2 hw => ?_
            have hw2 : wipe σ2 t.slots = wipe σ t.slots := by rw [hw t.slots fun i h => h, wipe_idem]
            refine ⟨hw2, ht _ g' ⟨env', z.os⟩ σ2 H' _ S2 ?_⟩
            cases hc : fc ⟨env', z.os⟩ with
            | stuck => simp only [eltIf, hc, R.bind_stuck] at hrun; cases hrun
            | exc c x z' => simp only [eltIf, hc, R.bind_exc] at hrun; cases hrun
            | ok cb z3 =>
              obtain ⟨cd, cfr⟩ := cb
              cases cd with
              | bl c =>
                intro g3 H3 st3 S3
                cases c with
                | false =>
                  rw [if_neg Bool.false_ne_true]
                  simp only [eltIf, hc, R.bind_ok] at hrun
                  have Sw := S3.wiped t.slots
                  rw [hw2] at Sw
                  have st4 := (st.trans st').trans st3
                  have nb := S.rs D0 (by simp)
                  have hD3 : H3 D0 = some (.lst av) := (st'.trans st3).keep D0 _ hav nb.2.1
                  exact ⟨g3, _, acc, av, Sw, st4, hD3, Rps.mono (st'.trans st3).F (st'.trans st3).al _ _ hr, hrun⟩
                | true =>
                  rw [if_pos rfl]
                  simp only [eltIf, hc, R.bind_ok] at hrun
                  refine he _ g3 z3 σ2 H3 _ S3 ?_
                  cases hel : fe z3 with
                  | stuck => simp only [hel, R.bind_stuck] at hrun; cases hrun
                  | exc c x z' => simp only [hel, R.bind_exc] at hrun; cases hrun
                  | ok ya z4 =>
                    simp only [hel, R.bind_ok] at hrun
                    intro g4 y H4 st4 S4 ry
                    split at hrun
                    · rename_i hsz
                      have st5 := (st'.trans st3).trans st4
                      have nb := S.rs D0 (by simp)
                      have hD4 : H4 D0 = some (.lst av) := st5.keep D0 _ hav nb.2.1
                      refine ⟨av, hD4, by rw [Rps.length hr]; exact hsz, ?_⟩
                      have Su := (S4.wiped t.slots).updR (c := D0) (by simp) nB (.lst (av ++ [y]))
                      rw [hw2] at Su
                      have st6 := st.trans st5
                      refine ⟨g4, _, acc ++ [ya.1], av ++ [y], Su, ⟨st6.F, st6.al, st6.alnew, fun a o e n => ?_⟩, upd_same, Rps.append (Rps.mono st5.F st5.al _ _ hr) (Rps.cons ry Rps.nil), hrun⟩
                      rw [upd_ne (ne_of_none e hD)]
                      exact st6.keep a o e n
                    · cases hrun
              | _ => simp only [eltIf, hc, R.bind_ok] at hrun; cases hrun
          · cases hrun
        · cases hrun
      · left
        have ei : i = xs.length := by omega
        subst ei
        rw [List.drop_length] at hrun
        simp only [compL] at hrun
        split at hrun
        · rename_i hst
          cases hrun
          refine ⟨(fd hst).stop, ?_⟩
          have Sb := S1.back S st
          obtain ⟨nF, nBx, _⟩ := S.rs D0 (by simp)
          refine kp g (.ref D0) H st Sb ?_
          unfold Tmp
          rw [if_pos (by simp [D.cell])]
          refine ⟨D0, rfl, ⟨nF, nBx, nB, S1.freshR hD, ⟨av, hav, hr⟩⟩, fun j e hj ho q => ?_, hD⟩
          cases e with
          | no => cases ho
          | ex c x => cases ho
          | bor d => cases ho
          | val d fr =>
            obtain ⟨a, q1, q2, q3⟩ := Sb.ownAt hj ho
            rw [q2] at q
            cases q
            have hj2 : j ∉ t.slots := fun hm => by
              rcases back_at hm hj with h | ⟨_, h⟩
              · cases h
              · rw [h] at ho; cases ho
            rw [back_get hj2] at hj
            obtain ⟨a', r1, r2, r3⟩ := S.ownAt hj ho
            have : sad (wipe σ t.slots) j = sad σ j := by unfold sad; rw [wipe_get hj2]
            rw [this, q2] at r2
            cases r2
            exact r3.nR (by simp)
        · cases hrun
/-- a comprehension, by its parts -/
structure LcOk (w : Wd) (xr : Nat → Option Addr → V → Prop) (X : Cx) (W : WX) (tg iter elt : Expr) (ifs : List Expr) (scope : Scope) (vs : List Nat) (f : Z → R Z (D × Bool)) (wi : TI) (gU : TG) (tU : TT) (eU : TE) : Prop where
  pi : PI X tg iter wi
  pg : ∀ (s : Shared) (H : Hp) (C : Addr) (cl : List (Str × Addr)) (fp : List Addr), PG (X.blk s H scope (compEnvC scope cl C X.env) fp) tg gU
  pt : ∀ (s : Shared) (H : Hp) (C : Addr) (cl : List (Str × Addr)) (fp : List Addr), PTs (X.blk s H scope (compEnvC scope cl C X.env) fp) ifs tU
  pe : ∀ (s : Shared) (H : Hp) (C : Addr) (cl : List (Str × Addr)) (fp : List Addr), PE (X.blk s H scope (compEnvC scope cl C X.env) fp) elt eU
  run : ∀ b g z σ H Q, Sim w xr b g z σ H → PostE w xr W b g σ H Q (f z) → tLc wi gU tU eU vs σ H Q
theorem LcOk.box {tg iter elt : Expr} {ifs : List Expr} {scope : Scope} {vs : List Nat} {f : Z → R Z (D × Bool)} {wi : TI} {gU : TG} {tU : TT} {eU : TE} (L : LcOk w xr X W tg iter elt ifs scope vs f wi gU tU eU) : LcOk w xr X W tg iter elt ifs scope vs (fun z => (f z).bind fun a z => boxZ z a) wi gU tU eU :=
  ⟨L.pi, L.pg, L.pt, L.pe, fun b g z σ H Q S k => L.run b g z σ H Q S (box_post k)⟩
theorem lc_ok {cf : CF} {elt tg iter : Expr} {ifs : List Expr} {scope : Scope} {t : Tg} {k : ItK} {is : List E} {fc fe : Z → R Z (D × Bool)}
    (hi : SndI w xr X W tg iter k (evalEs cf is)) (hg : ∀ c, SndG w xr (blkOf X scope c) tg t) (ht : ∀ c, SndTs w xr (blkOf X scope c) W0 ifs fc) (he : ∀ c, SndF w xr (blkOf X scope c) W0 elt fun z => fst1 (fe z)) :
    ∃ wi gU tU eU, LcOk w xr X W tg iter elt ifs scope t.slots (fun z => (evalEs cf is z).bind fun ds z => compK t k fc fe ds z) wi gU tU eU := by
  obtain ⟨wi, pi, qi⟩ := hi
  refine ⟨wi, fun v σ H Q => ∀ c, Classical.choose (hg c) v σ H Q, fun σ H Q => ∀ c, Classical.choose (ht c) σ H Q, fun σ H Q => ∀ c, Classical.choose (he c) σ H Q, pi, fun s H C cl fp => ?_, fun s H C cl fp => ?_, fun s H C cl fp => ?_, fun b g z σ H Q S kp => ?_⟩
  · exact PG.mono (Classical.choose_spec (hg ⟨s, H, C, cl, fp⟩)).1 fun v σ H Q q => q _
  · exact PTs.mono (Classical.choose_spec (ht ⟨s, H, C, cl, fp⟩)).1 fun σ H Q q => q _
  · exact PE.mono (Classical.choose_spec (he ⟨s, H, C, cl, fp⟩)).1 fun σ H Q q => q _
  · refine qi b g z σ H _ S ?_
    cases e : evalEs cf is z with
    | stuck => rw [e] at kp; exact kp
    | exc c x z' => rw [e] at kp; exact kp
    | ok ds z1 =>
      rw [e] at kp
      simp only [R.bind_ok] at kp
      simp only [PostI]
      cases hs : srcOf z1.os k ds with
      | none => simp only [compK, hs] at kp; exact kp
      | some xs =>
        intro g1 H1 vs st1 S1 rs
        intro D0 hD
        exact comp_hr (gU := fun v σ H Q => ∀ c, Classical.choose (hg c) v σ H Q) (tU := fun σ H Q => ∀ c, Classical.choose (ht c) σ H Q) (eU := fun σ H Q => ∀ c, Classical.choose (he c) σ H Q)
          (fun b g z σ H d v env' Q S r e k c => (Classical.choose_spec (hg c)).2 b g z σ H d v env' Q S r e k) (fun b g z σ H Q S k c => (Classical.choose_spec (ht c)).2 b g z σ H Q S k) (fun b g z σ H Q S k c => (Classical.choose_spec (he c)).2 b g z σ H Q S k)
          S1 rs hs (PostE.step S1 st1 kp) D0 hD
theorem s_lc {elt tg iter : Expr} {ifs : List Expr} {scope : Scope} {own : List (Str × Nat)} {vs : List Nat} {pos : Pos} {f : Z → R Z (D × Bool)} (hc : X.calm = true) (hN : X.N.Nodup) (ok : BlkOk X.N X.env.scope scope own) (ho : own.map (·.2) = vs) (hs : ∀ x, foldedSetIterable iter X.env x = pure x)
    (h : ∃ wi gU tU eU, LcOk w xr X W tg iter elt ifs scope vs f wi gU tU eU) : SndE w xr X W (.ListComp elt [⟨tg, iter, ifs, 0⟩] scope pos) f := by
  obtain ⟨wi, gU, tU, eU, L⟩ := h
  subst ho
  exact ⟨_, pe_lc hc hN L.pi ok L.pg L.pt L.pe hs, L.run⟩
end
end Vi

namespace Vi
open PySem L2


def PostS (w : Wd) (xr : Nat → Option Addr → V → Prop) (W : WX) (b : Bs) (g : Gh) (D : Ends) : R Z Fl → Prop
  | .ok f z' => match f with
    | .next => ∀ g' σ' H', Le g g' → Sim w xr b g' z' σ' H' → D.nx σ' H'
    | .cont => ∀ g' σ' H', Le g g' → Sim w xr b g' z' σ' H' → D.ct σ' H'
    | .ret d fr => ∀ g' σ' H' v, Le g g' → Sim w xr b g' z' σ' H' → ValRel w b g' H' d fr v → D.rt v H'
  | .exc c x z' => ∀ g' σ' H' cls dd, Le g g' → Sim w xr b g' z' σ' H' → XR w.cad g' c x cls dd H' → W cls dd σ' H'
  | .stuck => False
def SndS (w : Wd) (xr : Nat → Option Addr → V → Prop) (X : Cx) (W : WX) (st : Stmt) (f : Z → R Z Fl) : Prop :=
  ∃ t, PS X st t ∧ ∀ b g z σ H D, Sim w xr b g z σ H → PostS w xr W b g D (f z) → t D σ H
def SndSs (w : Wd) (xr : Nat → Option Addr → V → Prop) (X : Cx) (W : WX) (st : List Stmt) (f : Z → R Z Fl) : Prop :=
  ∃ t, PSs X st t ∧ ∀ b g z σ H D, Sim w xr b g z σ H → PostS w xr W b g D (f z) → t D σ H

section
variable {w : Wd} {xr : Nat → Option Addr → V → Prop} {X : Cx} {W : WX} {b : Bs} {g g1 g2 : Gh} {z z1 z2 : Z} {σ : St} {H H1 H2 : Hp}

theorem PostS.step {D : Ends} {r : R Z Fl} (l : Le g g2) (k : PostS w xr W b g D r) : PostS w xr W b g2 D r := by
  cases r with
  | ok f z' =>
    cases f with
    | next => exact fun g' σ' H' s' => k g' σ' H' (l.trans s')
    | cont => exact fun g' σ' H' s' => k g' σ' H' (l.trans s')
    | ret d fr => exact fun g' σ' H' v s' => k g' σ' H' v (l.trans s')
  | exc c x z' => exact fun g' σ' H' cls dd s' => k g' σ' H' cls dd (l.trans s')
  | stuck => exact k.elim
theorem Tmp.val {H0 : Hp} {d : D} {fr : Bool} {v : V} (h : Tmp w b g z σ H0 H d fr v) : ValRel w b g H d fr v := by
  unfold Tmp at h
  unfold ValRel
  split
  · rename_i hc; rw [if_pos hc] at h
    obtain ⟨a, e, o, _⟩ := h
    exact ⟨a, e, o⟩
  · rename_i hc; rw [if_neg hc] at h; exact h
theorem ss_nil {cf : CF} : SndSs w xr X W [] (execB cf []) := ⟨_, pss_nil, fun b g z σ H D S k => by
  simp only [execB] at k
  exact k g σ H (.refl _) S⟩
theorem ss_cons {cf : CF} {st : Stmt} {sts : List Stmt} {i : S} {is : List S} (h : SndS w xr X W st (execS cf i)) (hr : SndSs w xr X W sts (execB cf is)) : SndSs w xr X W (st :: sts) (execB cf (i :: is)) := by
  obtain ⟨t, p, q⟩ := h
  obtain ⟨u, p2, q2⟩ := hr
  refine ⟨_, pss_cons p p2, fun b g z σ H D S k => q b g z σ H _ S ?_⟩
  simp only [execB] at k
  cases r : execS cf i z with
  | stuck => rw [r] at k; exact k
  | exc c x z' => rw [r] at k; exact k
  | ok f z1 =>
    rw [r] at k
    cases f with
    | next => exact fun g1 σ1 H1 l S1 => q2 b g1 z1 σ1 H1 D S1 (PostS.step l k)
    | cont => exact k
    | ret d fr => exact k
/-- an expression's outcome within a statement's -/
theorem exc_of {D : Ends} {c : Nat} {x : Vi.D} {z' : Z} (k : PostS w xr W b g D (.exc c x z')) : ∀ g' cls dd H', Stp g H g' H' → Sim w xr b g' z' σ H' → XR w.cad g' c x cls dd H' → W cls dd σ H' :=
  fun g' cls dd H' st S x => k g' σ H' cls dd st.le S x
theorem s_set {cf : CF} {i : Nat} {x : Str} {e : Expr} {ie : E} {pos' pos : Pos} (hm : X.N.length = w.m) (hN : X.N.Nodup) (hi : X.N[i]? = some x) (hx : Loc X.env.scope x) (hf : X.fn x = true ∨ X.env.scope.names.lookup x = some .local)
    (hs : swapsWith e (some (.Name x pos')) pos.line X.env = pure false) (h : SndE w xr X W e (evalE cf ie)) : SndS w xr X W (.Assign [.Name x pos'] e pos) (execS cf (.set (.nm i) ie)) := by
  obtain ⟨t, p, q⟩ := h
  refine ⟨_, ps_set hN hi hx p hs hf, fun b g z σ H D S k => q b g z σ H _ S ?_⟩
  simp only [execS] at k
  cases r : evalE cf ie z with
  | stuck => rw [r] at k; exact k
  | exc c x z' => rw [r] at k; exact exc_of k
  | ok a z1 =>
    rw [r] at k
    intro g1 v H1 st1 S1 tm
    have hlt : i < z1.env.length := by
      rw [S1.len, S1.ln, ← hm]; exact (List.getElem?_eq_some_iff.mp hi).1
    exact k g1 _ H1 st1.le (S1.assignT hlt tm)
theorem s_setLc {cf : CF} {i : Nat} {x : Str} {elt tg iter : Expr} {ifs : List Expr} {scope : Scope} {own : List (Str × Nat)} {vs : List Nat} {ie : E} {pos' pos spos : Pos} (hm : X.N.length = w.m) (hc : X.calm = true) (hN : X.N.Nodup) (hi : X.N[i]? = some x) (hxl : X.env.scope.names.lookup x = some .local)
    (hsw : swapsWith (.ListComp elt [⟨tg, iter, ifs, 0⟩] scope pos) (some (.Name x pos')) spos.line X.env = pure true) (ok : BlkOk X.N X.env.scope scope own) (ho : own.map (·.2) = vs) (hs : ∀ x, foldedSetIterable iter X.env x = pure x)
    (h : ∃ wi gU tU eU, LcOk w xr X W tg iter elt ifs scope vs (evalE cf ie) wi gU tU eU) : SndS w xr X W (.Assign [.Name x pos'] (.ListComp elt [⟨tg, iter, ifs, 0⟩] scope pos) spos) (execS cf (.set (.nm i) ie)) := by
  obtain ⟨wi, gU, tU, eU, L⟩ := h
  subst ho
  refine ⟨_, ps_setLc hc hN hi hxl hsw L.pi ok L.pg L.pt L.pe hs, fun b g z σ H D S k => L.run b g z σ H _ S ?_⟩
  simp only [execS] at k
  cases r : evalE cf ie z with
  | stuck => rw [r] at k; exact k
  | exc c x z' => rw [r] at k; exact exc_of k
  | ok a z1 =>
    rw [r] at k
    intro g1 v H1 st1 S1 tm
    have hlt : i < z1.env.length := by
      rw [S1.len, S1.ln, ← hm]; exact (List.getElem?_eq_some_iff.mp hi).1
    exact k g1 _ H1 st1.le (S1.assignT hlt tm)
theorem s_setT {cf : CF} {ts : List Tg} {tes : List Expr} {k0 : Nat} {tpos : Pos} {e : Expr} {ie : E} {pos : Pos} (hg : SndG w xr X (.Tuple tes k0 tpos) (.tp ts)) (hs : swapsWithSole [.Tuple tes k0 tpos] e pos.line X.env = pure false) (hw : swappedStores [.Tuple tes k0 tpos] e X.env = pure none) (h : SndE w xr X W e (evalE cf ie)) :
    SndS w xr X W (.Assign [.Tuple tes k0 tpos] e pos) (execS cf (.set (.tp ts) ie)) := by
  obtain ⟨t, p, q⟩ := h
  obtain ⟨gt, pg, qg⟩ := hg
  refine ⟨_, ps_asg p pg hs hw, fun b g z σ H D S k => q b g z σ H _ S ?_⟩
  simp only [execS] at k
  cases r : evalE cf ie z with
  | stuck => rw [r] at k; exact k
  | exc c x z' => rw [r] at k; exact exc_of k
  | ok a z1 =>
    rw [r] at k
    simp only [R.bind_ok] at k
    intro g1 v H1 st1 S1 tm
    split at k
    · rename_i env' he
      obtain ⟨d, fr⟩ := a
      cases d with
      | tup ds =>
        have rp : Rp g1.F g1.al (.tup ds) v := by
          unfold Tmp at tm; rw [if_neg (by simp [Vi.D.cell])] at tm; exact tm
        exact qg b g1 z1 σ H1 _ v env' _ S1 rp he fun σ' S' _ => k g1 σ' H1 st1.le S'
      | _ => simp [setT] at he
    · exact k.elim
/-- two names at once -/
theorem s_par {cf : CF} {i j : Nat} {x y : Str} {a b : Expr} {ia ib : E} {px py pt : Pos} {kt k2 : Nat} {pt2 pos : Pos} (hc : X.calm = true) (hm : X.N.length = w.m) (hN : X.N.Nodup) (hi : X.N[i]? = some x) (hj : X.N[j]? = some y) (hij : i ≠ j)
    (hx : X.env.scope.names.lookup x = some .local) (hy : X.env.scope.names.lookup y = some .local)
    (hw : swappedStores [.Tuple [.Name x px, .Name y py] kt pt] (.Tuple [a, b] k2 pt2) X.env = pure (some [x, y])) (h : SndAF w xr X W [a, b] (evalEs cf [ia, ib])) :
    SndS w xr X W (.Assign [.Tuple [.Name x px, .Name y py] kt pt] (.Tuple [a, b] k2 pt2) pos) (execS cf (.set (.tp [.nm i, .nm j]) (.tup [ia, ib]))) := by
  obtain ⟨t, p, q⟩ := h
  refine ⟨_, ps_par hc hN hi hj hij hx hy p hw, fun b0 g z σ H D S k => q b0 g z σ H _ S ?_⟩
  simp only [execS, evalE] at k
  cases r : evalEs cf [ia, ib] z with
  | stuck => rw [r] at k; exact k
  | exc c x z' => rw [r] at k; exact exc_of k
  | ok ds z1 =>
    rw [r] at k
    simp only [R.bind_ok] at k
    intro g1 vs H1 st1 S1 rs
    split at k
    · rename_i env' he
      simp only [setT] at he
      match ds, he with
      | [d, e], he =>
        simp only [setTs, setT, Option.bind_some, Option.some.injEq] at he
        subst he
        simp only [Rps] at rs
        obtain ⟨v, r1, rfl, h1, u, r2, rfl, h2, rfl⟩ := rs
        have l1 : i < z1.env.length := by
          rw [S1.len, S1.ln, ← hm]; exact (List.getElem?_eq_some_iff.mp hi).1
        have S2 := S1.assignF l1 h1
        have l2 : j < (z1.env.set i (.val d false)).length := by
          rw [List.length_set, S1.len, S1.ln, ← hm]; exact (List.getElem?_eq_some_iff.mp hj).1
        exact ⟨v, u, rfl, k g1 _ H1 st1.le (S2.assignF l2 h2)⟩
    · exact k.elim
theorem s_expr {cf : CF} {e : Expr} {ie : E} {pos : Pos} (hs : swapsWith e none pos.line X.env = pure false) (h : SndE w xr X W e (evalE cf ie)) : SndS w xr X W (.Expr e pos) (execS cf (.expr ie)) := by
  obtain ⟨t, p, q⟩ := h
  refine ⟨_, ps_expr p hs, fun b g z σ H D S k => q b g z σ H _ S ?_⟩
  simp only [execS] at k
  cases r : evalE cf ie z with
  | stuck => rw [r] at k; exact k
  | exc c x z' => rw [r] at k; exact exc_of k
  | ok a z1 =>
    rw [r] at k
    exact fun g1 v H1 st1 S1 tm => k g1 σ H1 st1.le S1
theorem s_if {cf : CF} {c : Expr} {a e : List Stmt} {ic : E} {ia ib : List S} {pos : Pos} (hc : SndT w xr X W c (evalE cf ic)) (ha : SndSs w xr X W a (execB cf ia)) (hb : SndSs w xr X W e (execB cf ib)) : SndS w xr X W (.If c a e pos) (execS cf (.ifS ic ia ib)) := by
  obtain ⟨tc, pc, qc⟩ := hc
  obtain ⟨ta, pa, qa⟩ := ha
  obtain ⟨tb, pb, qb⟩ := hb
  refine ⟨_, ps_if pc pa pb, fun b g z σ H D S k => qc b g z σ H _ S ?_⟩
  simp only [execS] at k
  cases r : evalE cf ic z with
  | stuck => rw [r] at k; exact k
  | exc c x z' => rw [r] at k; exact exc_of k
  | ok x z1 =>
    rw [r] at k
    obtain ⟨d, fr⟩ := x
    cases d with
    | bl c =>
      intro g1 H1 st1 S1
      have k1 := PostS.step st1.le k
      cases c with
      | true => rw [if_pos rfl]; exact qa b g1 z1 σ H1 D S1 k1
      | false => rw [if_neg Bool.false_ne_true]; exact qb b g1 z1 σ H1 D S1 k1
    | _ => exact k.elim
theorem s_pass {cf : CF} {pos : Pos} : SndS w xr X W (.Pass pos) (execS cf .pass) := ⟨_, ps_pass, fun b g z σ H D S k => k g σ H (.refl _) S⟩
theorem s_cont {cf : CF} {pos : Pos} : SndS w xr X W (.Continue pos) (execS cf .cont) := ⟨_, ps_continue, fun b g z σ H D S k => k g σ H (.refl _) S⟩
theorem s_doc {cf : CF} {x : Str} {j pos pos'} : SndS w xr X W (.Expr (.Constant (.str x) j pos) pos') (execS cf .pass) := ⟨_, ps_doc, fun b g z σ H D S k => k g σ H (.refl _) S⟩
theorem s_retN {cf : CF} {pos : Pos} : SndS w xr X W (.Return none pos) (execS cf .retN) := ⟨_, ps_retN, fun b g z σ H D S k => k g σ H .non (.refl _) S (by unfold ValRel; rw [if_neg (by simp)]; simp [Rp])⟩
theorem s_retV {cf : CF} {i : Nat} {x : Str} {pos' pos : Pos} (hN : X.N[i]? = some x) (hv : Vis X.env.scope x) (hd : (x == ("__debug__" : Str)) = false) (hcd : (x == ("__classdict__" : Str)) = false) : SndS w xr X W (.Return (some (.Name x pos')) pos) (execS cf (.ret (.v i))) := by
  refine ⟨_, ps_ret (pe_var hN hv hd hcd), fun b g z σ H D S k => ?_⟩
  simp only [execS] at k
  split at k
  · rename_i d fr he
    obtain ⟨v, h1, h2⟩ := S.ent i _ he
    exact ⟨v, h1, k g σ H v (.refl _) S h2⟩
  · exact k.elim
theorem s_ret {cf : CF} {e : Expr} {ie : E} {pos : Pos} (hn : ∀ i, ie ≠ .v i) (h : SndE w xr X W e (evalE cf ie)) : SndS w xr X W (.Return (some e) pos) (execS cf (.ret ie)) := by
  obtain ⟨t, p, q⟩ := h
  refine ⟨_, ps_ret p, fun b g z σ H D S k => q b g z σ H _ S ?_⟩
  have ex : execS cf (.ret ie) z = (evalE cf ie z).bind fun a z => .ok (.ret a.1 a.2) z := by
    cases ie <;> first | (simp only [execS]; done) | exact absurd rfl (hn _)
  rw [ex] at k
  cases r : evalE cf ie z with
  | stuck => rw [r] at k; exact k
  | exc c x z' => rw [r] at k; exact exc_of k
  | ok a z1 =>
    rw [r] at k
    exact fun g1 v H1 st1 S1 tm => k g1 σ H1 v st1.le S1 tm.val
theorem s_whl {cf : CF} {c : Expr} {a : List Stmt} {ic : E} {ia : List S} {pos : Pos} (hp : PassesOwn (model X.prog X.w) X.A X.env X.xe) (hc : SndT w xr X W c (evalE cf ic)) (ha : SndSs w xr X W a (execB cf ia)) : SndS w xr X W (.While c a [] pos) (execS cf (.whl ic ia)) := by
  obtain ⟨tc, pc, qc⟩ := hc
  obtain ⟨ta, pa, qa⟩ := ha
  refine ⟨_, ps_while hp pc pa, fun b g z σ H D S k => ?_⟩
  simp only [execS] at k
  refine ⟨fun m σ H => ∃ g z, Sim w xr b g z σ H ∧ PostS w xr W b g D (whlL (evalE cf ic) (execB cf ia) m z), ⟨cf.fuel, g, z, S, k⟩, fun m σ H hM => ?_⟩
  obtain ⟨g, z, S, k⟩ := hM
  cases m with
  | zero => exact k.elim
  | succ n =>
    simp only [whlL] at k
    refine qc b g z σ H _ S ?_
    cases r : evalE cf ic z with
    | stuck => rw [r] at k; exact k
    | exc c x z' => rw [r] at k; exact exc_of k
    | ok x z1 =>
      rw [r] at k
      obtain ⟨d, fr⟩ := x
      cases d with
      | bl c =>
        intro g1 H1 st1 S1
        have k1 := PostS.step st1.le k
        cases c with
        | false => rw [if_neg Bool.false_ne_true]; exact k1 g1 σ H1 (.refl _) S1
        | true =>
          rw [if_pos rfl]
          simp only [R.bind_ok] at k1
          refine ⟨fun σ H => ∃ g z, Sim w xr b g z σ H ∧ PostS w xr W b g D (whlL (evalE cf ic) (execB cf ia) n z), fun σ' H' h => ⟨n, Nat.lt_succ_self n, h⟩, qa b g1 z1 σ H1 _ S1 ?_⟩
          cases r2 : execB cf ia z1 with
          | stuck => rw [r2] at k1; exact k1
          | exc c x z' => rw [r2] at k1; exact k1
          | ok f z2 =>
            rw [r2] at k1
            cases f with
            | next => exact fun g2 σ2 H2 l S2 => ⟨g2, z2, S2, PostS.step l k1⟩
            | cont => exact fun g2 σ2 H2 l S2 => ⟨g2, z2, S2, PostS.step l k1⟩
            | ret d fr => exact k1
      | _ => exact k.elim
theorem x_for0 {cf : CF} {t : Tg} {k : ItK} {is : List E} {ia : List S} {z : Z} (hk : k ≠ .keys) : execS cf (.for t k is ia) z = (evalEs cf is z).bind fun ds z => forK t k (execB cf ia) ds z := by
  cases k <;> first | (simp only [execS]; done) | exact absurd rfl hk
theorem s_for {cf : CF} {tg iter : Expr} {a : List Stmt} {t : Tg} {k : ItK} {is : List E} {ia : List S} {pos : Pos} (hk : k ≠ .keys) (hp : PassesOwn (model X.prog X.w) X.A X.env X.xe) (hc : X.calm = true) (hs : ∀ x, foldedSetIterable iter X.env x = pure x)
    (hi : SndIF w xr X W tg iter k (evalEs cf is)) (hg : SndGO w xr X tg t) (ha : SndSs w xr X W a (execB cf ia)) : SndS w xr X W (.For tg iter a [] pos) (execS cf (.for t k is ia)) := by
  obtain ⟨wi, pi, qi⟩ := hi
  obtain ⟨gt, pg, qg⟩ := hg
  obtain ⟨ta, pa, qa⟩ := ha
  refine ⟨_, ps_for hp hc pi pg pa hs, fun b g z σ H D S kk => qi b g z σ H _ S ?_⟩
  rw [x_for0 hk] at kk
  cases e : evalEs cf is z with
  | stuck => rw [e] at kk; exact kk
  | exc c x z' => rw [e] at kk; exact exc_of kk
  | ok ds z1 =>
    rw [e] at kk
    simp only [R.bind_ok, forK] at kk
    simp only [PostIF]
    cases hsrc : srcOf z1.os k ds with
    | none => rw [hsrc] at kk; exact kk
    | some xs =>
      rw [hsrc] at kk
      simp only at kk
      intro g1 H1 vs st1 S1 rs
      have k1 := PostS.step st1.le kk
      refine ⟨fun i m σ H => ∃ g z, Sim w xr b g z σ H ∧ Le g1 g ∧ i ≤ xs.length ∧ m = xs.length - i ∧ PostS w xr W b g D (forL t (execB cf ia) (boxesOf z1.os ds) (xs.drop i) z), ⟨xs.length, g1, z1, S1, .refl _, Nat.zero_le _, rfl, k1⟩, fun i m σ H hM => ?_⟩
      obtain ⟨g, z, S, l, hi, rfl, kp⟩ := hM
      have rs' : Rbs w g H ds vs := rs.rbs l S
      by_cases hlt : i < xs.length
      · right
        rw [List.drop_eq_getElem_cons hlt] at kp
        simp only [forL] at kp
        split at kp
        · rename_i hst
          have F := feed (X := X) S rs' (still_src hst hsrc)
          refine ⟨F.go i hlt, fun σ H => ∃ g z, Sim w xr b g z σ H ∧ Le g1 g ∧ PostS w xr W b g D (forL t (execB cf ia) (boxesOf z1.os ds) (xs.drop (i + 1)) z), fun σ' H' ⟨g, z, a1, a2, a3⟩ => ⟨xs.length - (i + 1), by omega, g, z, a1, a2, by omega, rfl, a3⟩, fun x H' hy => ?_⟩
          obtain ⟨g', st', S', hx⟩ : ∃ g', Stp g H g' H' ∧ Sim w xr b g' z σ H' ∧ Rp g'.F g'.al xs[i] x := by
            rcases F.yld i xs[i] x H' (by simp) hy with ⟨rfl, h⟩ | ⟨p, es, us, h1, rfl, h2, rfl, h3⟩
            · exact ⟨g, .refl _ _, S, h⟩
            · obtain ⟨g', a1, a2, a3⟩ := S.newTup h2 h3
              exact ⟨g', a1, a2, by rw [h1]; exact a3⟩
          have kp1 := PostS.step st'.le kp
          split at kp1
          · rename_i env' henv
            refine qg b g' z σ H' xs[i] x env' _ S' hx henv fun σ2 S2 => ?_
            refine qa b g' ⟨env', z.os⟩ σ2 H' _ S2 ?_
            cases r2 : execB cf ia ⟨env', z.os⟩ with
            | stuck => rw [r2] at kp1; exact kp1
            | exc c x z' => rw [r2] at kp1; exact kp1
            | ok f z2 =>
              rw [r2] at kp1
              have ll := l.trans st'.le
              cases f with
              | next => exact fun g2 σ2 H2 l2 S2 => ⟨g2, z2, S2, ll.trans l2, PostS.step l2 kp1⟩
              | cont => exact fun g2 σ2 H2 l2 S2 => ⟨g2, z2, S2, ll.trans l2, PostS.step l2 kp1⟩
              | ret d fr => exact kp1
          · exact kp1.elim
        · exact kp.elim
      · left
        have ei : i = xs.length := by omega
        subst ei
        rw [List.drop_length] at kp
        simp only [forL] at kp
        split at kp
        · rename_i hst
          exact ⟨(feed (X := X) S rs' (still_src hst hsrc)).stop, kp g σ H (.refl _) S⟩
        · exact kp.elim
end
end Vi

namespace SSl
open PySem PySem.Spec PyProof.Rows
section
variable {prog : Program} {w : World} {A : Around} {E : Value → Shared → Prop} {s : Shared}
theorem setSlice {l r sl : Addr} {items new : Array Value} {n a b : Nat} {vl vu : Value} {lo hi : Option Int} {Q : Unit → Shared → Prop} (ho : s.heap.get? l = some { cls := .type "list", data := .seq items n }) (hr : s.heap.IsList r new) (hs : s.heap.IsSliceOf sl vl vu .none) (pl : IsPart vl lo) (pu : IsPart vu hi) (hz : items.size + new.size ≤ 1000000)
    (e1 : sliceBounds lo hi none items.size = ((a : Int), (b : Int), 1))
    (hQ : Q () { s with heap := s.heap.update l (Obj.mapSeq fun xs => xs.extract 0 a ++ new ++ xs.extract (max a b) xs.size) }) : wpAny (model prog w) A (setItem (.ref l) (.ref sl) (.ref r)) Q E s := by
  have hl : s.heap.IsList l items := ⟨_, ho, rfl, n, rfl⟩
  obtain ⟨os, hos, hcs, hds⟩ := id hs
  have hTs : s.TypeIs (.ref sl) "slice" := ⟨os, hos, hcs⟩
  obtain ⟨orr, hor, hcr, nr, hdr⟩ := id hr
  have hTr : s.TypeIs (.ref r) "list" := ⟨orr, hor, hcr⟩
  unfold setItem
  try with_reducible refine wpAny_holding ?_
  first | refine wpAny_bind (wpAny_pure ?_) | skip
  refine wpAny_bind (wpAny_sequenceKey hl.typeIs (by decide) ?_)
  refine wpAny_bind (wpAny_callSpecial?_slot (name := Str.ofString "__setitem__") hl.typeIs slot_list_setitem
    (wpAny_call_entry slot_list_setitem hl.typeIs entry_list_setitem ?_ (args_list_setitem _ _ _)))
  show wpAny _ _ (Builtin.List.listSubscript? (.ref sl) >>= _) _ _ s
  refine wpAny_bind ?_
  unfold Builtin.List.listSubscript?
  refine wpAny_bind (wpAny_specialOf hTs slice_no_index ?_)
  simp only [Option.isNone_none, if_true]
  refine wpAny_pure ?_
  show wpAny _ _ (typeOf (.ref sl) >>= _) _ _ s
  refine wpAny_bind (wpAny_typeOf hTs ?_)
  rw [if_neg (by decide)]
  rw [listSliceParts_eq]
  refine wpAny_bind (wpAny_bind (wpAny_field hos hds (x := .none) rfl (wpAny_bind (wpAny_listPart .none ?_))))
  rw [if_neg (show ¬ ((rawPart none == rawInt 0) = true) from Bool.false_ne_true)]
  refine wpAny_bind (wpAny_field hos hds (x := vl) rfl (wpAny_bind (wpAny_listPart pl ?_)))
  refine wpAny_bind (wpAny_field hos hds (x := vu) rfl (wpAny_bind (wpAny_listPart pu (wpAny_pure ?_))))
  split
  · unfold Builtin.List.listItems
    refine wpAny_bind (wpAny_bind (wpAny_seqItems hor hdr (wpAny_pure ?_)))
    refine wpAny_bind (wpAny_bind (wpAny_seqItems ho rfl (wpAny_pure ?_)))
    refine wpAny_bind (wpAny_of_eq (sliceIndices_raw lo hi none items.size (by simp)) ?_)
    rw [e1]
    rw [if_pos (show (((a : Int), (b : Int), (1 : Int)).2.2 == 1) = true from rfl)]
    rw [show Builtin.List.listTooLong (items.size + new.size) = false from by unfold Builtin.List.listTooLong; exact decide_eq_false (by have : sizeLine = 16777216 := rfl; omega)]
    rw [if_neg (by decide)]
    have em : (max (a : Int) (b : Int)).toNat = max a b := by omega
    simp only [Int.toNat_natCast, em]
    refine wpAny_bind (wpAny_rule ?_)
    refine wpAny_bind ?_
    show wpAny _ _ (updateSeq l _) _ _ s
    refine wpAny_updateSeq ho rfl ?_ (by have : sizeLine = 16777216 := rfl; omega) (by
      have : sizeLine = 16777216 := rfl
      simp only [Array.size_append, Array.size_extract]; omega)
    refine wpAny_bind (wpAny_letGo ?_)
    first
      | exact wpAny_pure ⟨.none, rfl, wpAny_pure hQ⟩
      | exact wpAny_bind (wpAny_pure (wpAny_pure ⟨.none, rfl, wpAny_pure hQ⟩))
  · unfold Builtin.List.listAllItems
    refine wpAny_bind (wpAny_bind (wpAny_typeOf hTr ?_))
    rw [if_pos (by decide)]
    unfold Builtin.List.listItems
    refine wpAny_bind (wpAny_seqItems hor hdr (wpAny_pure ?_))
    refine wpAny_bind (wpAny_bind (wpAny_seqItems ho rfl (wpAny_pure ?_)))
    refine wpAny_bind (wpAny_of_eq (sliceIndices_raw lo hi none items.size (by simp)) ?_)
    rw [e1]
    rw [if_pos (show (((a : Int), (b : Int), (1 : Int)).2.2 == 1) = true from rfl)]
    rw [show Builtin.List.listTooLong (items.size + new.size) = false from by unfold Builtin.List.listTooLong; exact decide_eq_false (by have : sizeLine = 16777216 := rfl; omega)]
    rw [if_neg (by decide)]
    have em : (max (a : Int) (b : Int)).toNat = max a b := by omega
    simp only [Int.toNat_natCast, em]
    refine wpAny_bind (wpAny_rule ?_)
    refine wpAny_bind ?_
    show wpAny _ _ (updateSeq l _) _ _ s
    refine wpAny_updateSeq ho rfl ?_ (by have : sizeLine = 16777216 := rfl; omega) (by
      have : sizeLine = 16777216 := rfl
      simp only [Array.size_append, Array.size_extract]; omega)
    refine wpAny_bind (wpAny_letGo ?_)
    first
      | exact wpAny_pure ⟨.none, rfl, wpAny_pure hQ⟩
      | exact wpAny_bind (wpAny_pure (wpAny_pure ⟨.none, rfl, wpAny_pure hQ⟩))
end
end SSl
namespace L2
open PySem PySem.Spec
section
variable {X : Cx}
def splV {α : Type} (ds : List α) (lo hi : Option Int) (es : List α) : List α := ds.take (HT.sIx ds.length 0 lo) ++ es ++ ds.drop (max (HT.sIx ds.length 0 lo) (HT.sIx ds.length ds.length hi))
def rSetSl (K : PySem.W.Frag) : V → Option Int → Option Int → V → Hp → (Hp → Prop) → Prop := fun o lo hi v H Q => ∃ p r xs ys, o = .ref p ∧ v = .ref r ∧ H p = some (.lst xs) ∧ SqL K H r ys ∧ xs.length + ys.length ≤ 1000000 ∧ Q (upd H p (.lst (splV xs lo hi ys)))
def gSl (to : TE) (tl th : TO) (K : PySem.W.Frag) : TG := fun v σ H Q => to σ H fun x H1 => tl σ H1 fun l H2 => th σ H2 fun u H3 => rSetSl K x l u v H3 fun H4 => Q σ H4
theorem vals_take {xs : List V} {us : List Value} (r : Vals xs us) (n : Nat) : Vals (xs.take n) (us.take n) := by
  induction r generalizing n with
  | nil => simp; exact .nil
  | cons h t ih => cases n with
    | zero => simp; exact .nil
    | succ n => simp only [List.take_succ_cons]; exact .cons h (ih n)
theorem vals_drop {xs : List V} {us : List Value} (r : Vals xs us) (n : Nat) : Vals (xs.drop n) (us.drop n) := by
  induction r generalizing n with
  | nil => simp; exact .nil
  | cons h t ih => cases n with
    | zero => simp only [List.drop_zero]; exact .cons h t
    | succ n => simp only [List.drop_succ_cons]; exact ih n
theorem pg_subSl {o : Expr} {lo hi : Option Expr} {to : TE} {tl th : TO} {pos p2 : Pos} (ho : PE X o to) (hl : PO X lo tl) (hu : PO X hi th) : PG X (.Subscript o (.Slice lo hi none p2) pos) (gSl to tl th X.K) := by
  refine ⟨fun pins s σ H v u Q I r h => ?_⟩
  show wpAny (model X.prog X.w) X.A (do
      let ov ← holding [u] (eval o X.env)
      let iv ← holding [u, ov] (eval (.Slice lo hi none p2) X.env)
      standAt pos
      holding [u, ov, iv] (setItem ov iv u)
      release [iv, u, ov] []) _ _ s
  refine wpAny_bind (wpAny_holding (thn (ho.run pins s σ H _ I h) fun ov s1 ⟨x, H1, I1, r1, q1⟩ => ?_))
  refine wpAny_bind (wpAny_holding (wpAny_Slice (thn (hl.run pins s1 σ H1 _ I1 q1) fun vl s2 ⟨l, H2, I2, pl, q2⟩ => thn (hu.run pins s2 σ H2 _ I2 q2) fun vu s3 ⟨b, H3, I3, pu, q3⟩ => ?_)))
  rw [evalPart_none]
  refine wpAny_pure ?_
  have I4 : Inv X pins σ H3 { s3 with heap := s3.heap.push { cls := .type "slice", data := .fields #[vl, vu, .none] } } := I3.kept (t' := s3.toks) fun b ob q => Heap.get?_push_of_some _ q
  obtain ⟨p, rr, xs, ys, rfl, rfl, hp, hr, hz, q⟩ := q3
  cases r1
  cases r
  obtain ⟨its, n, ra, ho4, hz1⟩ := I4.lst hp
  obtain ⟨its2, rb, hl2, hz2⟩ := I4.list hr
  have l1 := ra.length
  have l2 := rb.length
  obtain ⟨b1, b2, b3⟩ := slice_bounds l b its.toArray.size
  refine wpAny_bind (wpAny_standAt (wpAny_bind (wpAny_holding ?_)))
  refine SSl.setSlice (a := HT.sIx its.toArray.size 0 l) (b := HT.sIx its.toArray.size its.toArray.size b) ho4 hl2.isList (Heap.IsSliceOf.new ..) pl pu (by simp only [List.size_toArray]; omega) (by rw [← b1, ← b2]; exact Prod.ext rfl (Prod.ext rfl b3)) ?_
  have ef : its.toArray.extract 0 (HT.sIx its.toArray.size 0 l) ++ its2.toArray ++ its.toArray.extract (max (HT.sIx its.toArray.size 0 l) (HT.sIx its.toArray.size its.toArray.size b)) its.toArray.size = (splV its l b its2).toArray := by
    apply Array.toList_inj.mp
    simp [splV, List.extract_eq_drop_take]
    exact List.take_of_length_le (by rw [List.length_drop]; omega)
  refine wpAny_release ⟨σ, _, I4.lstUpd (f := Obj.mapSeq fun zs => zs.extract 0 (HT.sIx its.toArray.size 0 l) ++ its2.toArray ++ zs.extract (max (HT.sIx its.toArray.size 0 l) (HT.sIx its.toArray.size its.toArray.size b)) zs.size) (its' := splV its l b its2) (n' := if (splV its l b its2).toArray.size == its.toArray.size then n else n + 1) hp ho4 ?_ ?_ ?_ _, q⟩
  · rw [← ef]
    rfl
  · unfold splV
    rw [← l1]
    exact ((vals_take ra _).append rb).append (vals_drop ra _)
  · unfold splV
    have : sizeLine = 16777216 := rfl
    simp only [List.length_append, List.length_take, List.length_drop]; omega
end
end L2
namespace Vi
open PySem L2

section
variable {w : Wd} {xr : Nat → Option Addr → V → Prop} {X : Cx} {W : WX} {b : Bs} {g g1 g2 : Gh} {z z1 z2 : Z} {σ : St} {H H1 H2 : Hp}

/-- an own list or dict is changed -/
theorem Sim.updOwn (S : Sim w xr b g z σ H) {i : Nat} {d d' : D} {a : Addr} {o : HO} (he : z.env[i]? = some (.val d true)) (hd : d.cell = true) (hd' : d'.cell = true) (hs : σ[i]? = some (some (.ref a))) (hc : Cel g.F g.al (upd H a o) a d') :
    Sim w xr b g { z with env := z.env.set i (.val d' true) } σ (upd H a o) := by
  obtain ⟨a', h1, h2, ow⟩ := S.ownAt he (by simp [hd])
  rw [hs] at h1; cases h1
  have hi : i < z.env.length := (List.getElem?_eq_some_iff.mp he).1
  have k : ∀ c v, c ≠ a → H c = some v → upd H a o c = some v := fun c v n e => by rw [upd_ne n]; exact e
  refine ⟨fun c v e => k c v (fun q => by subst q; rw [ow.nF] at e; cases e) (S.sub c v e), S.new, fun c v e n => k c v (fun q => by subst q; rw [ow.nH] at e; cases e) (S.kept c v e n), S.pF, S.pre, S.alnew, S.alF, S.nd, ?_, by simp [S.len], S.ln, fun j e hj => ?_, fun j l e e' hjl h3 h4 o1 o2 => ?_, fun c hc' => ?_⟩
  · have : ∀ {xs : List Bx} {ys : List Addr}, (∀ y ∈ ys, y ≠ a) → Paired (BxRel w.cad b.lk g.F g.al H) xs ys → Paired (BxRel w.cad b.lk g.F g.al (upd H a o)) xs ys := by
      intro xs ys hy p
      induction p with
      | nil => exact .nil
      | cons q t ih => exact .cons (q.mono (.refl _) (.refl _) fun v e => k _ v (hy _ (by simp)) e) (ih fun y h => hy y (List.mem_cons_of_mem _ h))
    exact this (fun y h q => ow.nB (q ▸ h)) S.box
  · by_cases hij : i = j
    · subst hij
      rw [List.getElem?_set_self hi] at hj
      cases hj
      refine ⟨.ref a, hs, ?_⟩
      unfold ValRel
      rw [if_pos (by simp [hd'])]
      exact ⟨a, rfl, ow.nF, ow.nB, ow.nH, ow.nR, hc⟩
    · rw [List.getElem?_set_ne hij] at hj
      have q := S.ent j e hj
      cases e with
      | no => trivial
      | ex c x => exact q
      | bor d => exact q
      | val d2 fr =>
        obtain ⟨v, e1, e2⟩ := q
        refine ⟨v, e1, ?_⟩
        unfold ValRel at e2 ⊢
        split
        · rename_i hcc
          rw [if_pos hcc] at e2
          obtain ⟨c, ea, ow2⟩ := e2
          refine ⟨c, ea, ow2.nF, ow2.nB, ow2.nH, ow2.nR, ow2.cl.mono (.refl _) (.refl _) fun v e => k _ v (fun q => ?_) e⟩
          subst q
          have : sad σ j = some c := by unfold sad; rw [e1, ea]
          exact S.dis i j _ _ hij he hj (by simp [Ent.owns, hd]) hcc (h2.trans this.symm)
        · rename_i hcc
          rw [if_neg hcc] at e2
          exact e2
  · have f : ∀ {j : Nat} {e : Ent}, (z.env.set i (.val d' true))[j]? = some e → e.owns = true → ∃ e0, z.env[j]? = some e0 ∧ e0.owns = true := fun {j e} h o => by
      by_cases hij : i = j
      · subst hij; exact ⟨_, he, by simp [Ent.owns, hd]⟩
      · exact ⟨e, by rwa [List.getElem?_set_ne hij] at h, o⟩
    obtain ⟨e0, a1, a2⟩ := f h3 o1
    obtain ⟨e1, a3, a4⟩ := f h4 o2
    exact S.dis j l e0 e1 hjl a1 a3 a2 a4
  · obtain ⟨h3, h4, v, h5⟩ := S.rs c hc'
    exact ⟨h3, h4, v, k c v (fun q => ow.nR (q ▸ hc')) h5⟩
/-- what stands in a box is changed -/
theorem Sim.updBox (S : Sim w xr b g z σ H) {i : Nat} {x : Bx} {a : Addr} {o : HO} (ha : g.al[i]? = some a) (hc : BxRel w.cad b.lk g.F g.al (upd H a o) x a) :
    Sim w xr b g { z with os := z.os.set i x } σ (upd H a o) := by
  have hm := List.mem_of_getElem? ha
  have k : ∀ c v, c ≠ a → H c = some v → upd H a o c = some v := fun c v n e => by rw [upd_ne n]; exact e
  refine ⟨fun c v e => k c v (fun q => by subst q; rw [S.alF _ hm] at e; cases e) (S.sub c v e), S.new, fun c v e n => k c v (fun q => ?_) (S.kept c v e n), S.pF, S.pre, S.alnew, S.alF, S.nd, ?_, S.len, S.ln, fun j e hj => ?_, S.dis, fun c hc' => ?_⟩
  · subst q
    rcases S.alnew _ hm with q | q
    · exact n q
    · rw [e] at q; cases q
  · exact Paired.setB S.box ha S.nd hc fun x y n q => q.mono (.refl _) (.refl _) fun v e => k _ v n e
  · have q := S.ent j e hj
    cases e with
    | no => trivial
    | ex c x => exact q
    | bor d => exact q
    | val d2 fr =>
      obtain ⟨v, e1, e2⟩ := q
      refine ⟨v, e1, ?_⟩
      unfold ValRel at e2 ⊢
      split
      · rename_i hcc
        rw [if_pos hcc] at e2
        obtain ⟨c, ea, ow2⟩ := e2
        exact ⟨c, ea, ow2.nF, ow2.nB, ow2.nH, ow2.nR, ow2.cl.mono (.refl _) (.refl _) fun v e => k _ v (fun q => ow2.nB (q ▸ hm)) e⟩
      · rename_i hcc
        rw [if_neg hcc] at e2
        exact e2
  · obtain ⟨h3, h4, v, h5⟩ := S.rs c hc'
    exact ⟨h3, h4, v, k c v (fun q => h4 (q ▸ hm)) h5⟩

theorem lisAt_some (S : Sim w xr b g z σ H) {i : Nat} {ds : List D} (h : lisAt z i = some ds) : ∃ a xs, σ[i]? = some (some (.ref a)) ∧ H a = some (.lst xs) ∧ Rps g.F g.al ds xs ∧ ∀ ds' xs', Rps g.F g.al ds' xs' → Sim w xr b g (putL z i ds') σ (upd H a (.lst xs')) := by
  unfold lisAt at h
  split at h
  · rename_i ds0 he
    cases h
    obtain ⟨a, h1, h2, ow⟩ := S.ownAt he (by simp [D.cell])
    obtain ⟨xs, h3, h4⟩ := ow.cl
    refine ⟨a, xs, h1, h3, h4, fun ds' xs' r => ?_⟩
    unfold putL
    rw [he]
    exact S.updOwn he (by simp [D.cell]) (by simp [D.cell]) h1 ⟨xs', upd_same, r⟩
  · rename_i k fr he
    split at h
    · rename_i ds0 hk
      cases h
      obtain ⟨v, h1, h2⟩ := S.ent i _ he
      unfold ValRel at h2
      rw [if_neg (by simp [D.cell])] at h2
      simp only [Rp] at h2
      obtain ⟨a, h3, rfl⟩ := h2
      obtain ⟨a', h4, xs, h5, h6⟩ := S.boxAt hk
      rw [h3] at h4; cases h4
      refine ⟨a, xs, h1, h5, h6, fun ds' xs' r => ?_⟩
      unfold putL
      rw [he]
      exact S.updBox h3 ⟨xs', upd_same, r⟩
    · cases h
  · cases h

/-! ### list.extend, of a list that is only read -/
def rExtR : V → List V → Hp → VK → Prop := fun x vs H Q => ∃ l b xs zs, x = .ref l ∧ vs = [.ref b] ∧ H l = some (.lst xs) ∧ Rd H b (.lst zs) ∧ xs.length + zs.length ≤ sizeLine ∧ Q .non (upd H l (.lst (xs ++ zs)))
theorem mt_extR : MtM X "list.extend" rExtR := by
  intro pins s σ H x vs v us Q I rx rv h
  obtain ⟨l, b, xs, zs, rfl, rfl, hH, hB, hz, q⟩ := h
  cases rx
  obtain ⟨u, rfl, ru⟩ := rv.one
  cases ru
  obtain ⟨z, its, n, r, hl, e⟩ := I.lstM hH
  obtain ⟨z2, its2, n2, r2, e2⟩ := hB.ok I.hok
  have hl2 := r2.length
  have hsz : its.toArray.size + its2.toArray.size ≤ sizeLine := by rw [List.size_toArray, List.size_toArray]; omega
  have hlong : ¬ (!its.toArray.isEmpty && Builtin.List.listTooLong (its.toArray.size + its2.toArray.size)) = true := by
    rw [notLongL hsz, Bool.and_false]
    exact Bool.false_ne_true
  refine call_meets F.slot_list_extend ⟨_, e, rfl⟩ F.entry_list_extend (F.args_list_extend_2 _ _)
    (AutoSeq1.list_extend_list_list_0 l its.toArray n b its2.toArray n2 hlong (by rw [List.size_toArray]; omega) (by omega)) ⟨e, e2, ?_⟩
  refine ⟨.non, _, I.lset (its' := its ++ its2) hH e (by simp) (r.append r2) ?_, rfl, q⟩
  rw [List.length_append]
  omega

/-- one of the methods that change a list -/
structure LMut (X : Cx) (m : Str) (id : String) (r : V → List V → Hp → VK → Prop) : Prop where
  slot : Slot "list" m id
  ty : typeOf (.builtin id) = pure (.type "method_descriptor")
  mt : MtR X id r
  hr : ∀ (w : Wd) (xr : Nat → Option Addr → V → Prop) (b : Bs) (g : Gh) (z : Z) (σ : St) (H : Hp) (a : Addr) (xs vs : List V) (ds ys ds' : List D) (Q : VK), Sim w xr b g z σ H → H a = some (.lst xs) → Rps g.F g.al ds xs → Rps g.F g.al ys vs → mutL m ds ys z.os = some ds' →
    (∀ xs', Rps g.F g.al ds' xs' → Q .non (upd H a (.lst xs'))) → r (.ref a) vs H Q
theorem lm_append : LMut X "append" "list.append" rAppend := by
  refine ⟨F.slot_list_append, F.type_list_append, mt_append, fun w xr b g z σ H a xs vs ds ys ds' Q S hH hx hy hm k => ?_⟩
  unfold mutL at hm
  rw [if_pos rfl] at hm
  split at hm
  · rename_i y
    split at hm
    · rename_i hl
      cases hm
      simp only [Rps] at hy
      obtain ⟨v, r, rfl, h1, rfl⟩ := hy
      exact ⟨a, xs, v, rfl, rfl, hH, by rw [Rps.length hx]; exact hl, k _ (Rps.append hx (Rps.cons h1 Rps.nil))⟩
    · cases hm
  · cases hm
theorem lm_extend : LMut X "extend" "list.extend" rExtR := by
  refine ⟨F.slot_list_extend, F.type_list_extend, mt_extR, fun w xr b g z σ H a xs vs ds ys ds' Q S hH hx hy hm k => ?_⟩
  unfold mutL at hm
  rw [if_neg (by decide), if_pos rfl] at hm
  split at hm
  · rename_i y
    split at hm
    · rename_i es he
      split at hm
      · rename_i hl
        cases hm
        simp only [Rps] at hy
        obtain ⟨v, r, rfl, h1, rfl⟩ := hy
        obtain ⟨c, zs, rfl, h2, h3⟩ := rdL_of S (Rb.of S h1) he
        exact ⟨a, c, xs, zs, rfl, rfl, hH, h2, by rw [Rps.length hx, Rps.length h3]; exact hl, k _ (Rps.append hx h3)⟩
      · cases hm
    · cases hm
  · cases hm
theorem lm_insert : LMut X "insert" "list.insert" (fun x vs H Q => ∃ (l : Addr) (xs : List V) (i : Int) (y : V), x = .ref l ∧ vs = [.int i, y] ∧ H l = some (.lst xs) ∧ xs.length < sizeLine ∧ 0 ≤ i ∧ i < 2 ^ 63 ∧ Q .non (upd H l (.lst (xs.take i.toNat ++ [y] ++ xs.drop i.toNat)))) := by
  refine ⟨F.slot_list_insert, F.type_list_insert, mt_insert, fun w xr b g z σ H a xs vs ds ys ds' Q S hH hx hy hm k => ?_⟩
  unfold mutL at hm
  rw [if_neg (by decide), if_neg (by decide), if_pos rfl] at hm
  split at hm
  · rename_i i y
    split at hm
    · rename_i hl
      cases hm
      simp only [Rps] at hy
      obtain ⟨v, r, rfl, h1, v2, r2, rfl, h2, rfl⟩ := hy
      have h1' : Rp g.F g.al (.int i) v := h1
      simp only [Rp] at h1'
      obtain ⟨q1, q2, q3⟩ := hl
      exact ⟨a, xs, i, v2, rfl, by rw [h1'], hH, by rw [Rps.length hx]; exact q1, q2, by omega, k _ (Rps.append (Rps.append (Rps.take _ hx) (Rps.cons h2 Rps.nil)) (Rps.drop _ hx))⟩
    · cases hm
  · cases hm
theorem lm_clear : LMut X "clear" "list.clear" rClear := by
  refine ⟨F.slot_list_clear, F.type_list_clear, mt_clear, fun w xr b g z σ H a xs vs ds ys ds' Q S hH hx hy hm k => ?_⟩
  unfold mutL at hm
  rw [if_neg (by decide), if_neg (by decide), if_neg (by decide), if_pos rfl] at hm
  split at hm
  · cases hm
    simp only [Rps] at hy
    subst hy
    exact ⟨a, xs, rfl, rfl, hH, k _ Rps.nil⟩
  · cases hm
theorem lm_reverse : LMut X "reverse" "list.reverse" rReverse := by
  refine ⟨F.slot_list_reverse, F.type_list_reverse, mt_reverse, fun w xr b g z σ H a xs vs ds ys ds' Q S hH hx hy hm k => ?_⟩
  unfold mutL at hm
  rw [if_neg (by decide), if_neg (by decide), if_neg (by decide), if_neg (by decide), if_pos rfl] at hm
  split at hm
  · cases hm
    simp only [Rps] at hy
    subst hy
    exact ⟨a, xs, rfl, rfl, hH, k _ (Rps.reverse hx)⟩
  · cases hm
def noCall : Expr → Bool
  | .Call .. => false
  | _ => true

theorem s_mut {cf : CF} {i : Nat} {x m : Str} {e : Expr} {es : List Expr} {is : List E} {pos apos cpos pos' : Pos} {id : String} {r : V → List V → Hp → VK → Prop} (L : LMut X m id r) (hN : X.N[i]? = some x) (hv : Vis X.env.scope x) (hd : (x == ("__debug__" : Str)) = false) (hcd : (x == ("__classdict__" : Str)) = false)
    (hs0 : Expr.star e = false) (hs2 : es.all (fun e => !Expr.star e) = true) (hn : (e :: es).length < 30) (hline : (apos.endLine == cpos.line) = true)
    (hsw : swapsWith (.Call (.Attribute (.Name x pos) m apos) (e :: es) [] cpos) none pos'.line X.env = pure false) (h : SndAF w xr X W (e :: es) (evalEs cf is)) :
    SndS w xr X W (.Expr (.Call (.Attribute (.Name x pos) m apos) (e :: es) [] cpos) pos') (execS cf (.mut m i is)) := by
  obtain ⟨t, p, q⟩ := h
  have few : ∀ es : List Expr, es.all (fun e => !Expr.star e) = true → (backTo cpos (starEach es X.env)).all (fun x => !x.1) = true := by
    intro es
    induction es with
    | nil => intro _; rfl
    | cons a es ih =>
      intro h
      simp only [List.all_cons, Bool.and_eq_true] at h
      rw [star_ok (by simpa using h.1)]
      have := ih h.2
      simpa [backTo] using this
  refine ⟨_, ps_expr (pe_bm PySem.F.plainAttrs_list L.slot L.ty L.mt (pe_var hN hv hd hcd) p rfl ?_ hline (star_ok hs0 _ _) (star_any _ _ _ hs2)) hsw, fun b g z σ H D S k => ?_⟩
  · have f1 := few (e :: es) (by simp only [List.all_cons, hs0, hs2]; rfl)
    rw [f1]
    simp only [Bool.true_and, Bool.and_eq_true]
    refine ⟨rfl, ?_⟩
    simpa using hn
  simp only [execS] at k
  split at k
  · rename_i ds0 hl0
    obtain ⟨a, xs, h1, h2, h3, _⟩ := lisAt_some S hl0
    refine ⟨.ref a, h1, ⟨.inl ⟨rfl, xs, .inl (.inl h2)⟩, q b g z σ H _ S ?_⟩⟩
    cases r1 : evalEs cf is z with
    | stuck => rw [r1] at k; exact k
    | exc c x z' => rw [r1] at k; exact exc_of k
    | ok ys z1 =>
      rw [r1] at k
      simp only [R.bind_ok] at k
      intro g1 vs H1 st1 S1 rs
      split at k
      · rename_i ds hl
        split at k
        · rename_i ds' hm
          obtain ⟨a', xs1, h4, h5, h6, h7⟩ := lisAt_some S1 hl
          rw [h1] at h4; cases h4
          exact L.hr w xr b g1 z1 σ H1 a xs1 vs ds ys ds' _ S1 h5 h6 rs hm fun xs' r' => k g1 σ _ st1.le (h7 ds' xs' r')
        · exact k.elim
      · exact k.elim
  · exact k.elim
/-- one without arguments -/
theorem s_mut0 {cf : CF} {i : Nat} {x m : Str} {pos apos cpos pos' : Pos} {id : String} {r : V → List V → Hp → VK → Prop} (L : LMut X m id r) (hN : X.N[i]? = some x) (hv : Vis X.env.scope x) (hd : (x == ("__debug__" : Str)) = false) (hcd : (x == ("__classdict__" : Str)) = false)
    (hline : (apos.endLine == cpos.line) = true)
    (hsw : swapsWith (.Call (.Attribute (.Name x pos) m apos) [] [] cpos) none pos'.line X.env = pure false) :
    SndS w xr X W (.Expr (.Call (.Attribute (.Name x pos) m apos) [] [] cpos) pos') (execS cf (.mut m i [])) := by
  refine ⟨_, ps_expr (pe_bm0 PySem.F.plainAttrs_list L.slot L.ty L.mt (pe_var hN hv hd hcd) rfl hline) hsw, fun b g z σ H D S k => ?_⟩
  simp only [execS, evalEs] at k
  split at k
  · rename_i ds0 hl0
    obtain ⟨a, xs, h1, h2, h3, h4⟩ := lisAt_some S hl0
    refine ⟨.ref a, h1, .inl ⟨rfl, xs, .inl (.inl h2)⟩, ?_⟩
    simp only [R.bind_ok, hl0] at k
    split at k
    · rename_i ds' hm
      exact L.hr w xr b g z σ H a xs [] ds0 [] ds' _ S h2 h3 Rps.nil hm fun xs' r' => k g σ _ (.refl _) (h4 ds' xs' r')
    · exact k.elim
  · exact k.elim
theorem s_setV {cf : CF} {n : Nat} {x : Str} {ei e : Expr} {ii ie : E} {xpos spos pos : Pos} (hN : X.N[n]? = some x) (hv : Vis X.env.scope x) (hd : (x == ("__debug__" : Str)) = false) (hcd : (x == ("__classdict__" : Str)) = false)
    (ha : ∀ v, assign (.Subscript (.Name x xpos) ei spos) X.env v = (do
      let ov ← holding [v] (eval (.Name x xpos) X.env)
      let iv ← holding [v, ov] (eval ei X.env)
      standAt spos
      holding [v, ov, iv] (setItem ov iv v)
      release [v, ov, iv] []))
    (hs : swapsWithSole [.Subscript (.Name x xpos) ei spos] e pos.line X.env = pure false) (hw : swappedStores [.Subscript (.Name x xpos) ei spos] e X.env = pure none)
    (he : SndE w xr X W e (evalE cf ie)) (hi : SndE w xr X W ei (evalE cf ii)) :
    SndS w xr X W (.Assign [.Subscript (.Name x xpos) ei spos] e pos) (execS cf (.setV n ii ie)) := by
  obtain ⟨t, p, q⟩ := he.F
  obtain ⟨t2, p2, q2⟩ := hi.F
  refine ⟨_, ps_asg p (pg_sub (pe_var hN hv hd hcd) p2 set_list ha) hs hw, fun b g z σ H D S k => q b g z σ H _ S ?_⟩
  simp only [execS] at k
  simp only [fst1]
  cases r1 : evalE cf ie z with
  | stuck => rw [r1] at k; exact k
  | exc c x z' => rw [r1] at k; exact exc_of k
  | ok y z1 =>
    rw [r1] at k
    simp only [R.bind_ok] at k
    intro g1 v H1 st1 S1 rv
    have k1 := PostS.step st1.le k
    split at k1
    · rename_i ds0 hl0
      obtain ⟨a, xs, h1, h2, h3, _⟩ := lisAt_some S1 hl0
      refine ⟨.ref a, h1, q2 b g1 z1 σ H1 _ S1 ?_⟩
      simp only [fst1]
      cases r2 : evalE cf ii z1 with
      | stuck => rw [r2] at k1; exact k1
      | exc c x z' => rw [r2] at k1; exact exc_of k1
      | ok j z2 =>
        rw [r2] at k1
        simp only [R.bind_ok] at k1
        intro g2 jv H2 st2 S2 rj
        split at k1
        · rename_i ds hl
          split at k1
          · rename_i ds' hm
            obtain ⟨a', xs1, h4, h5, h6, h7⟩ := lisAt_some S2 hl
            rw [h1] at h4; cases h4
            unfold setC at hm
            split at hm
            · rename_i kk hj
              obtain ⟨jj, hjj, rfl⟩ := Option.map_eq_some_iff.mp hm
              rw [hj] at rj
              simp only [Rp] at rj
              exact ⟨a, xs1, kk, jj, rfl, rj, h5, by rw [Rps.length h6]; exact hjj, k1 g2 σ _ st2.le (h7 _ _ (Rps.set (Rp.mono st2.F st2.al _ _ rv) jj h6))⟩
            · cases hm
          · exact k1.elim
        · exact k1.elim
    · exact k1.elim

theorem splV_eq {α : Type} (ds : List α) (lo hi : Option Int) (es : List α) : splV ds lo hi es = splL ds lo hi es := rfl
theorem Rps.takeN {F : Hp} {al : List Addr} : ∀ {ds : List D} {vs : List V} (n : Nat), Rps F al ds vs → Rps F al (ds.take n) (vs.take n)
  | [], vs, n, h => by simp only [Rps] at h; subst h; simp [Rps]
  | d :: ds, vs, 0, h => by simp [Rps]
  | d :: ds, vs, n + 1, h => by
    simp only [Rps] at h
    obtain ⟨v, r, rfl, h1, h2⟩ := h
    simp only [List.take_succ_cons, Rps]
    exact ⟨v, _, rfl, h1, Rps.takeN n h2⟩
theorem Rps.dropN {F : Hp} {al : List Addr} : ∀ {ds : List D} {vs : List V} (n : Nat), Rps F al ds vs → Rps F al (ds.drop n) (vs.drop n)
  | [], vs, n, h => by simp only [Rps] at h; subst h; simp [Rps]
  | d :: ds, vs, 0, h => by simpa using h
  | d :: ds, vs, n + 1, h => by
    simp only [Rps] at h
    obtain ⟨v, r, rfl, h1, h2⟩ := h
    simp only [List.drop_succ_cons]
    exact Rps.dropN n h2
theorem s_setSl {cf : CF} {n : Nat} {x : Str} {lo hi : Option Expr} {e : Expr} {il ih : List E} {ie : E} {xpos spos p2 pos : Pos} (hN : X.N[n]? = some x) (hv : Vis X.env.scope x) (hd : (x == ("__debug__" : Str)) = false) (hcd : (x == ("__classdict__" : Str)) = false)
    (hs : swapsWithSole [.Subscript (.Name x xpos) (.Slice lo hi none p2) spos] e pos.line X.env = pure false) (hw : swappedStores [.Subscript (.Name x xpos) (.Slice lo hi none p2) spos] e X.env = pure none)
    (he : SndE w xr X W e (evalE cf ie)) (hl : SndO w xr X W lo (evalEs cf il)) (hh : SndO w xr X W hi (evalEs cf ih)) :
    SndS w xr X W (.Assign [.Subscript (.Name x xpos) (.Slice lo hi none p2) spos] e pos) (execS cf (.setSl n il ih ie)) := by
  obtain ⟨t, p, q⟩ := he.F
  obtain ⟨tl, pl, ql⟩ := hl
  obtain ⟨th, ph, qh⟩ := hh
  refine ⟨_, ps_asg p (pg_subSl (pe_var hN hv hd hcd) pl ph) hs hw, fun b g z σ H D S k => q b g z σ H _ S ?_⟩
  simp only [execS] at k
  simp only [fst1]
  cases r1 : evalE cf ie z with
  | stuck => rw [r1] at k; exact k
  | exc c x z' => rw [r1] at k; exact exc_of k
  | ok y z1 =>
    rw [r1] at k
    simp only [R.bind_ok] at k
    intro g1 v H1 st1 S1 rv
    have k1 := PostS.step st1.le k
    split at k1
    · rename_i ds0 hl0
      obtain ⟨a, xs, h1, h2, h3, _⟩ := lisAt_some S1 hl0
      refine ⟨.ref a, h1, ql b g1 z1 σ H1 _ S1 ?_⟩
      cases rl : evalEs cf il z1 with
      | stuck => rw [rl] at k1; exact k1
      | exc c x z' => rw [rl] at k1; exact exc_of k1
      | ok l z2 =>
        rw [rl] at k1
        simp only [R.bind_ok] at k1
        cases el : intO l with
        | none => rw [el] at k1; exact k1.elim
        | some lo' =>
          simp only [PostO, el]
          intro g2 H2 st2 S2
          refine qh b g2 z2 σ H2 _ S2 ?_
          have k2 := PostS.step st2.le k1
          rw [el] at k2
          simp only [withI] at k2
          cases rh : evalEs cf ih z2 with
          | stuck => rw [rh] at k2; exact k2
          | exc c x z' => rw [rh] at k2; exact exc_of k2
          | ok h z3 =>
            rw [rh] at k2
            simp only [R.bind_ok] at k2
            cases eh : intO h with
            | none => rw [eh] at k2; exact k2.elim
            | some hi' =>
              rw [eh] at k2
              simp only [PostO, eh]
              intro g3 H3 st3 S3
              have k3 := PostS.step st3.le k2
              simp only [withI] at k3
              split at k3
              · rename_i ds hl3
                split at k3
                · rename_i ds' hm
                  obtain ⟨a', xs1, h4, h5, h6, h7⟩ := lisAt_some S3 hl3
                  rw [h1] at h4; cases h4
                  unfold splO at hm
                  split at hm
                  · rename_i es hy
                    split at hm
                    · rename_i hz
                      cases hm
                      have rv3 := Rp.mono st3.F st3.al _ _ (Rp.mono st2.F st2.al _ _ rv)
                      rw [hy] at rv3
                      simp only [Rp] at rv3
                      obtain ⟨r, vs, rfl, e2, e3⟩ := rv3
                      have lx := Rps.length h6
                      have ly := Rps.length e3
                      refine ⟨a, r, xs1, vs, rfl, rfl, h5, .inl (S3.sub.rd e2), by rw [lx, ly]; exact hz, k3 g3 σ _ (.refl _) (h7 _ _ ?_)⟩
                      unfold splV splL
                      rw [lx]
                      exact ((Rps.takeN _ h6).append e3).append (Rps.dropN _ h6)
                    · cases hm
                  · cases hm
                · exact k3.elim
              · exact k3.elim
    · exact k1.elim

/-! ### methods that change nothing -/
theorem strOk_sub {s : Str} (h : PyData.strOk s = true) (i j : Nat) : PyData.strOk (Builtin.Str.strSub s i j) = true := by
  refine strOk_of h fun c hc => ?_
  have h2 : c ∈ (s.cps.toList.drop i).take (j - i) := by simpa [Builtin.Str.strSub] using hc
  exact List.mem_of_mem_drop (List.mem_of_mem_take h2)
theorem strOk_split {a b : Str} (h : PyData.strOk a = true) : ∀ t ∈ Txt.split a b, PyData.strOk t = true := by
  intro t ht
  unfold Txt.split at ht
  split at ht
  · rw [List.mem_singleton.mp ht]; exact h
  · split at ht
    · rw [List.mem_singleton.mp ht]; exact h
    · unfold Builtin.Str.partsBetween at ht
      simp only [List.mem_map] at ht
      obtain ⟨p, _, rfl⟩ := ht
      exact strOk_sub h _ _
theorem strOk_app {a b : Str} (h : PyData.strOk a = true) (h' : PyData.strOk b = true) : PyData.strOk (a ++ b) = true := by
  unfold PyData.strOk at *
  show (a.cps ++ b.cps).all _ = true
  rw [Array.all_append, h, h']; rfl
theorem strOk_join {a : Str} (h : PyData.strOk a = true) : ∀ ss : List Str, (∀ t ∈ ss, PyData.strOk t = true) → PyData.strOk (Str.join a ss) = true
  | [], _ => by show PyData.strOk Str.empty = true; decide +kernel
  | [x], h' => h' x (by simp)
  | x :: y :: r, h' => by
    show PyData.strOk (x ++ a ++ Str.join a (y :: r)) = true
    exact strOk_app (strOk_app (h' x (by simp)) h) (strOk_join h (y :: r) fun t ht => h' t (List.mem_cons_of_mem _ ht))
theorem strs_rps {F : Hp} {al : List Addr} : ∀ {ds : List D} {vs : List V} {ss : List Str}, Rps F al ds vs → strsO ds = some ss → vs = ss.map V.str ∧ ∀ t ∈ ss, PyData.strOk t = true
  | [], vs, ss, r, e => by
    simp only [Rps] at r
    simp only [strsO] at e; cases e
    exact ⟨r, fun t h => by cases h⟩
  | d :: ds, vs, ss, r, e => by
    simp only [Rps] at r
    obtain ⟨v, u, rfl, r1, r2⟩ := r
    cases d with
    | str s =>
      simp only [strsO] at e
      obtain ⟨ss', e1, rfl⟩ := Option.map_eq_some_iff.mp e
      obtain ⟨h1, h2⟩ := strs_rps r2 e1
      simp only [Rp] at r1
      obtain ⟨rfl, hs⟩ := r1
      refine ⟨by rw [h1]; rfl, fun t ht => ?_⟩
      rcases List.mem_cons.mp ht with rfl | ht
      · exact hs
      · exact h2 t ht
    | _ => simp [strsO] at e
theorem rps_strs {F : Hp} {al : List Addr} : ∀ {ss : List Str}, (∀ t ∈ ss, PyData.strOk t = true) → Rps F al (ss.map D.str) (ss.map V.str)
  | [], _ => Rps.nil
  | s :: ss, h => Rps.cons (by simp [Rp, h s (by simp)]) (rps_strs fun t ht => h t (List.mem_cons_of_mem _ ht))
def mtId : Mt → String
  | .join => "str.join"
  | .find => "str.find"
  | .split => "str.split"
  | .index => "list.index"
def rMt (K : PySem.W.Frag) : Mt → V → List V → Hp → VK → Prop
  | .join => fun x xs H Q => ∃ a p, ∃ ys : List Str, x = .str a ∧ xs = [.ref p] ∧ (SqL K H p (ys.map V.str) ∨ SqT K H p (ys.map V.str)) ∧ (ys.map (·.length)).sum + ys.length * a.length ≤ 16777216 ∧ Q (.str (Txt.join a ys)) H
  | .find => fun x xs H Q => ∃ a b, x = .str a ∧ xs = [.str b] ∧ Q (.int (Txt.find a b)) H
  | .split => fun x xs H Q => ∃ a b, x = .str a ∧ xs = [.str b] ∧ (b.length == 0) = false ∧ a.length + 2 ≤ sizeLine ∧ rNewStrs (Txt.split a b) H Q
  | .index => rIndex K
theorem mt_all : ∀ m : Mt, PlainAttrs (mtTy m) ∧ Slot (mtTy m) (mtName m) (mtId m) ∧ typeOf (.builtin (mtId m)) = pure (.type "method_descriptor") ∧ MtR X (mtId m) (rMt X.K m)
  | .join => ⟨PySem.F.plainAttrs_str, F.slot_str_join, F.type_str_join, mt_join⟩
  | .find => ⟨PySem.F.plainAttrs_str, F.slot_str_find, F.type_str_find, mt_find⟩
  | .split => ⟨PySem.F.plainAttrs_str, F.slot_str_split, F.type_str_split, mt_split⟩
  | .index => ⟨PySem.F.plainAttrs_list, F.slot_list_index, F.type_list_index, mt_index⟩
theorem mtOk_ty (S : Sim w xr b g z σ H) {m : Mt} {x : D} {v : V} (r : Rb w g H x v) (h : mtOk m z.os x = true) : tyV X.K (mtTy m) v H := by
  cases m with
  | index =>
    simp only [mtOk] at h
    obtain ⟨ds, e⟩ := Option.isSome_iff_exists.mp h
    obtain ⟨a, vs, rfl, r1, _⟩ := rdL_of S r e
    exact .inl ⟨rfl, vs, .inl r1⟩
  | _ =>
    simp only [mtOk] at h
    split at h
    · obtain ⟨rfl, _⟩ := r.str
      exact rfl
    · cases h
theorem seq_of (S : Sim w xr b g z σ H) {x : D} {v : V} {ds : List D} (r : Rb w g H x v) (h : seqO z.os x = some ds) : ∃ a vs, v = .ref a ∧ (SqL X.K H a vs ∨ SqT X.K H a vs) ∧ Rps g.F g.al ds vs := by
  unfold seqO at h
  split at h
  · cases h
    obtain ⟨a, vs, rfl, r1, r2⟩ := r.tup S
    exact ⟨a, vs, rfl, .inr (SqT.of r1), r2⟩
  · obtain ⟨a, vs, rfl, r1, r2⟩ := rdL_of S r h
    exact ⟨a, vs, rfl, .inl (.inl r1), r2⟩
theorem mt_hr (m : Mt) {Q : VK} {x : D} {vx : V} {ys : List D} {vs : List V} (S : Sim w xr b g z σ H) (rx : Rb w g H x vx) (rs : Rbs w g H ys vs) (k : PostE w xr W b g σ H Q (ofT z (methD m z.os x ys))) : rMt X.K m vx vs H Q := by
  unfold methD at k
  split at k
  · rename_i a y
    obtain ⟨rfl, ha⟩ := rx.str
    obtain ⟨v, rfl, ry⟩ := rbs1 rs
    split at k
    · rename_i ss hss
      obtain ⟨ds, h1, h2⟩ := Option.bind_eq_some_iff.mp hss
      split at k
      · rename_i hz
        obtain ⟨p, us, rfl, r1, r2⟩ := seq_of (X := X) S ry h1
        obtain ⟨rfl, hok⟩ := strs_rps r2 h2
        exact ⟨a, p, ss, rfl, rfl, r1, hz, PostE.now S (rp_str (by rw [show Txt.join a ss = Str.join a ss from TL.join_eq a ss]; exact strOk_join ha ss hok) _ _) k⟩
      · exact k.elim
    · exact k.elim
  · rename_i a b'
    obtain ⟨rfl, ha⟩ := rx.str
    obtain ⟨v, rfl, ry⟩ := rbs1 rs
    obtain ⟨rfl, hb⟩ := ry.str
    exact ⟨a, b', rfl, rfl, PostE.now S (rp_int _ _) k⟩
  · rename_i a b'
    obtain ⟨rfl, ha⟩ := rx.str
    obtain ⟨v, rfl, ry⟩ := rbs1 rs
    obtain ⟨rfl, hb⟩ := ry.str
    split at k
    · rename_i hz
      exact ⟨a, b', rfl, rfl, hz.1, hz.2, fun p hp => PostE.new (d := .lst ((Txt.split a b').map D.str)) S hp rfl ⟨_, upd_same, rps_strs (strOk_split ha)⟩ k⟩
    · exact k.elim
  · rename_i y
    obtain ⟨v, rfl, ry⟩ := rbs1 rs
    split at k
    · rename_i ds hd
      split at k
      · rename_i hf
        simp only [Bool.and_eq_true] at hf
        obtain ⟨a, us, rfl, r1, r2⟩ := rdL_of S rx hd
        have ry' : Rp g.F g.al y v := by
          cases y <;> simp only [D.flat, Bool.false_eq_true, false_and] at hf <;> exact ry
        cases hj : ds.findIdx? (fun d => eqD d y) with
        | none => rw [hj] at k; exact k.elim
        | some j =>
          rw [hj] at k
          have hj2 := List.findIdx?_eq_some_iff_getElem.mp hj
          obtain ⟨hlt, hp, hno⟩ := hj2
          obtain ⟨z', e1, e2⟩ := Rps.get r2 (List.getElem?_eq_getElem hlt)
          have fl := fun (i : Nat) (hi : i < ds.length) => List.all_eq_true.mp hf.2 ds[i] (List.getElem_mem hi)
          refine ⟨a, us, v, j, z', rfl, rfl, .inl r1, flat_of ry' hf.1, flats_of r2 hf.2, e1, by rw [eqV_of e2 ry' (fl j hlt) hf.1]; exact hp, fun m' z2 hm hz => ?_, PostE.now S (rp_int _ _) k⟩
          have hm2 : m' < ds.length := by omega
          obtain ⟨z3, e3, e4⟩ := Rps.get r2 (List.getElem?_eq_getElem hm2)
          rw [hz] at e3; cases e3
          rw [eqV_of e4 ry' (fl m' hm2) hf.1]
          simpa using hno m' hm
      · exact k.elim
    · exact k.elim
  · exact k.elim
def baseOk : Expr → Bool
  | .Call _ (_ :: _) _ _ => true
  | .Call .. => false
  | _ => true
theorem base_ok {o : Expr} (h : baseOk o = true) (m : Str) (env : Env) (whole : Sem Value) : attributeBase o m env whole = whole := by
  cases o with
  | Call f as ks p =>
    cases as with
    | nil => simp [baseOk] at h
    | cons a as => cases f <;> rfl
  | _ => rfl
theorem few_ok {cpos : Pos} {env : Env} : ∀ es : List Expr, es.all (fun e => !Expr.star e) = true → (backTo cpos (starEach es env)).all (fun x => !x.1) = true := by
  intro es
  induction es with
  | nil => intro _; rfl
  | cons a es ih =>
    intro h
    simp only [List.all_cons, Bool.and_eq_true] at h
    rw [star_ok (by simpa using h.1)]
    have := ih h.2
    simpa [backTo] using this
theorem s_meth {cf : CF} (m : Mt) {o e : Expr} {es : List Expr} {io : E} {is : List E} {apos cpos : Pos} (hb : baseOk o = true) (hs0 : Expr.star e = false) (hs2 : es.all (fun e => !Expr.star e) = true) (hn : (e :: es).length < 30) (hline : (apos.endLine == cpos.line) = true)
    (ho : SndB w xr X W o fun z => fst1 (evalE cf io z)) (ha : SndA w xr X W (e :: es) (evalEs cf is)) : SndE w xr X W (.Call (.Attribute o (mtName m) apos) (e :: es) [] cpos) (evalE cf (.meth m io is)) := by
  obtain ⟨to, po, qo⟩ := ho
  obtain ⟨ta, pa, qa⟩ := ha
  obtain ⟨m1, m2, m3, m4⟩ := mt_all (X := X) m
  refine ⟨_, pe_bm m1 m2 m3 m4 po pa (base_ok hb _ _ _) ?_ hline (star_ok hs0 _ _) (star_any _ _ _ hs2), fun b g z σ H Q S k => qo b g z σ H _ S ?_⟩
  · rw [few_ok (e :: es) (by simp only [List.all_cons, hs0, hs2]; rfl)]
    simp only [Bool.true_and, Bool.and_eq_true]
    exact ⟨rfl, by simpa using hn⟩
  simp only [evalE] at k
  simp only [fst1]
  cases r : evalE cf io z with
  | stuck => rw [r] at k; exact k
  | exc c x z' => rw [r] at k; exact k
  | ok x z1 =>
    rw [r] at k
    simp only [R.bind_ok] at k
    intro g1 v H1 st1 S1 rx
    have k1 := PostE.step S1 st1 k
    split at k1
    · rename_i hok
      refine ⟨mtOk_ty S1 rx hok, qa b g1 z1 σ H1 _ S1 ?_⟩
      cases r2 : evalEs cf is z1 with
      | stuck => rw [r2] at k1; exact k1
      | exc c x z' => rw [r2] at k1; exact k1
      | ok ys z2 =>
        rw [r2] at k1
        simp only [R.bind_ok] at k1
        intro g2 vs H2 st2 S2 rs
        exact mt_hr m S2 (rx.mono st2) rs (PostE.step S2 st2 k1)
    · exact k1.elim
end
end Vi

namespace Vi
open PySem L2

section
variable {w : Wd} {xr : Nat → Option Addr → V → Prop} {X : Cx} {W : WX} {b : Bs} {g g1 g2 : Gh} {z z1 z2 : Z} {σ : St} {H H1 H2 : Hp}

/-! ### dicts by their pairs -/
theorem rkv_any {F : Hp} {al : List Addr} {k : Key} : ∀ {kvs : List (D × D)} {l : List (Key × V)}, Rkv F al kvs l → (kvs.any fun p => eqD p.1 (kD k)) = (l.any fun p => decide (p.1 = k))
  | [], l, r => by simp only [Rkv] at r; subst r; rfl
  | (x, e) :: kvs, l, r => by
    simp only [Rkv] at r
    obtain ⟨kk, u, q, rfl, rfl, h1, h2⟩ := r
    simp only [List.any_cons, kD_eq, rkv_any h2]
theorem rkv_set {F : Hp} {al : List Addr} {k : Key} {d : D} {v : V} (h : Rp F al d v) : ∀ {kvs : List (D × D)} {l : List (Key × V)}, Rkv F al kvs l → Rkv F al (kvs.map fun p => if eqD p.1 (kD k) then (p.1, d) else p) (l.map fun p => if p.1 = k then (p.1, v) else p)
  | [], l, r => by simp only [Rkv] at r; subst r; simp [Rkv]
  | (x, e) :: kvs, l, r => by
    simp only [Rkv] at r
    obtain ⟨kk, u, q, rfl, rfl, h1, h2⟩ := r
    have ih := rkv_set (k := k) h h2
    rw [List.map_cons, List.map_cons]
    dsimp only
    rw [kD_eq]
    by_cases hk : kk = k
    · rw [decide_eq_true hk, if_pos rfl, if_pos hk]
      simp only [Rkv]
      exact ⟨kk, v, _, rfl, rfl, ⟨h1.1, h⟩, ih⟩
    · rw [decide_eq_false hk, if_neg Bool.false_ne_true, if_neg hk]
      simp only [Rkv]
      exact ⟨kk, u, _, rfl, rfl, h1, ih⟩
theorem rkv_app {F : Hp} {al : List Addr} {k : Key} {d : D} {v : V} (ho : kOk k) (h : Rp F al d v) : ∀ {kvs : List (D × D)} {l : List (Key × V)}, Rkv F al kvs l → Rkv F al (kvs ++ [(kD k, d)]) (l ++ [(k, v)])
  | [], l, r => by
    simp only [Rkv] at r; subst r
    simp only [List.nil_append, Rkv]
    exact ⟨k, v, [], rfl, rfl, ⟨ho, h⟩, rfl⟩
  | (x, e) :: kvs, l, r => by
    simp only [Rkv] at r
    obtain ⟨kk, u, q, rfl, rfl, h1, h2⟩ := r
    simp only [List.cons_append, Rkv]
    exact ⟨kk, u, _, rfl, rfl, h1, rkv_app ho h h2⟩
theorem putD_kv {F : Hp} {al : List Addr} {k : Key} {d : D} {v : V} (ho : kOk k) (h : Rp F al d v) {kvs : List (D × D)} {l : List (Key × V)} (r : Rkv F al kvs l) : Rkv F al (putD (kD k) d kvs) (putK l k v) := by
  unfold putD putK
  rw [rkv_any r]
  split
  · exact rkv_set h r
  · exact rkv_app ho h r
theorem delD_kv {F : Hp} {al : List Addr} {k : Key} : ∀ {kvs : List (D × D)} {l : List (Key × V)}, Rkv F al kvs l → Rkv F al (delD (kD k) kvs) (dropK l k)
  | [], l, r => by simp only [Rkv] at r; subst r; simp [Rkv, delD, dropK]
  | (x, e) :: kvs, l, r => by
    simp only [Rkv] at r
    obtain ⟨kk, u, q, rfl, rfl, h1, h2⟩ := r
    have ih := delD_kv (k := k) h2
    unfold delD dropK at ih ⊢
    by_cases hk : kk = k
    · rw [List.filter_cons_of_neg (by simp [kD_eq, hk]), List.filter_cons_of_neg (by simp [hk])]
      exact ih
    · rw [List.filter_cons_of_pos (by simp [kD_eq, hk]), List.filter_cons_of_pos (by simp [hk])]
      simp only [Rkv]
      exact ⟨kk, u, _, rfl, rfl, h1, ih⟩
theorem rp_kOk {F : Hp} {al : List Addr} {k : Key} {v : V} (h : Rp F al (kD k) v) : kOk k := by
  cases k with
  | inl i => trivial
  | inr x => simp only [kD, Rp] at h; exact h.2
theorem rkv_len {F : Hp} {al : List Addr} {kvs : List (D × D)} {l : List (Key × V)} (h : Rkv F al kvs l) : l.length = kvs.length := dct_len h
theorem lookD_of {F : Hp} {al : List Addr} {k : Key} {kvs : List (D × D)} {l : List (Key × V)} (h : Rkv F al kvs l) : match lookD kvs (kD k) with
    | some d => ∃ v, valV l k = some v ∧ Rp F al d v
    | none => valV l k = none := by
  have := valV_of k h
  unfold lookD
  cases e : kvs.find? fun p => eqD p.1 (kD k) with
  | none => rw [e] at this; exact this
  | some p => rw [e] at this; exact this

/-! ### d.get(k, e) -/
theorem m2_of {o e f : Expr} {m : Str} {apos cpos : Pos} (hb : baseOk o = true) (he : Expr.star e = false) (hf : Expr.star f = false) (hl : (apos.endLine == cpos.line) = true) : M2 X o m apos e f cpos := by
  refine ⟨base_ok hb _ _ _, ?_, hl, ?_⟩
  · rw [few_ok [e, f] (by simp [he, hf])]
    rfl
  · rw [star_ok he, star_ok hf]; rfl
theorem isD_of (S : Sim w xr b g z σ H) {d : D} {v : V} (h : Rb w g H d v) (e : (dctO z.os d).isSome = true) : ∃ a, v = .ref a ∧ IsD H a := by
  obtain ⟨kvs, hk⟩ := Option.isSome_iff_exists.mp e
  obtain ⟨a, rfl, q⟩ := dctO_of S h hk
  refine ⟨a, rfl, ?_⟩
  rcases q with ⟨l, q, _⟩ | ⟨l, q, _⟩
  · exact .inl ⟨l, q⟩
  · exact .inr ⟨l, .inl q⟩
theorem rb_key {d : D} {v : V} {k : Key} (h : Rb w g H d v) (e : d = kD k) : v = kV k ∧ kOk k := by
  subst e
  have h' : Rp g.F g.al (kD k) v := by cases k <;> exact h
  exact ⟨kD_rp h', rp_kOk h'⟩
theorem s_get {cf : CF} {o e f : Expr} {io ie if' : E} {apos cpos : Pos} (hu : X.A.units + 64 < cLine) (hb : baseOk o = true) (he0 : Expr.star e = false) (hf0 : Expr.star f = false) (hl : (apos.endLine == cpos.line) = true)
    (ho : SndB w xr X W o fun z => fst1 (evalE cf io z)) (he : SndB w xr X W e fun z => fst1 (evalE cf ie z)) (hf : SndF w xr X W f fun z => fst1 (evalE cf if' z)) :
    SndE w xr X W (.Call (.Attribute o "get" apos) [e, f] [] cpos) (evalE cf (.get io ie if')) := by
  obtain ⟨to, po, qo⟩ := ho
  obtain ⟨te, pe, qe⟩ := he
  obtain ⟨tf, pf, qf⟩ := hf
  refine ⟨_, pe_dget2 (by omega) po pe pf (m2_of hb he0 hf0 hl), fun b g z σ H Q S k => qo b g z σ H _ S ?_⟩
  simp only [evalE] at k
  simp only [fst1]
  cases r : evalE cf io z with
  | stuck => rw [r] at k; exact k
  | exc c x z' => rw [r] at k; exact k
  | ok x z1 =>
    rw [r] at k
    simp only [R.bind_ok] at k
    intro g1 v H1 st1 S1 rx
    have k1 := PostE.step S1 st1 k
    split at k1
    · rename_i hd
      obtain ⟨a, rfl, hI⟩ := isD_of S1 rx hd
      refine ⟨a, rfl, hI, qe b g1 z1 σ H1 _ S1 ?_⟩
      simp only [fst1]
      cases r2 : evalE cf ie z1 with
      | stuck => rw [r2] at k1; exact k1
      | exc c x z' => rw [r2] at k1; exact k1
      | ok y z2 =>
        rw [r2] at k1
        simp only [R.bind_ok] at k1
        intro g2 u H2 st2 S2 ry
        have k2 := PostE.step S2 st2 k1
        refine qf b g2 z2 σ H2 _ S2 ?_
        simp only [fst1]
        cases r3 : evalE cf if' z2 with
        | stuck => rw [r3] at k2; exact k2
        | exc c x z' => rw [r3] at k2; exact k2
        | ok d z3 =>
          rw [r3] at k2
          simp only [R.bind_ok] at k2
          intro g3 t H3 st3 S3 rd
          have k3 := PostE.step S3 st3 k2
          have ry3 := ry.mono st3
          have rx3 := (rx.mono st2).mono st3
          unfold getZ2 at k3
          split at k3
          · rename_i kvs hk
            split at k3
            · rename_i hok
              rw [Bool.and_eq_true] at hok
              obtain ⟨kk, ek⟩ := keyOk_kD hok.1
              obtain ⟨rfl, hkk⟩ := rb_key ry3 ek
              obtain ⟨a', e', q⟩ := dctO_of S3 rx3 hk
              cases e'
              rcases q with ⟨l, q, rr⟩ | ⟨l, q, rr⟩
              · refine ⟨_, DGet.kr q, ?_⟩
                have lo := lookD_of (k := kk) rr
                rw [ek] at k3
                cases e2 : lookD kvs (kD kk) with
                | some d' =>
                  rw [e2] at lo k3
                  obtain ⟨v', e3, e4⟩ := lo
                  rw [e3]
                  exact PostE.now S3 e4 k3
                | none =>
                  rw [e2] at lo k3
                  rw [lo]
                  exact PostE.now S3 rd k3
              · exact (Rkt_keys rr hok.2).elim
            · exact k3.elim
          · exact k3.elim
    · exact k1.elim

/-! ### d.pop(k, e) -/
theorem Stp.write {a : Addr} {o : HO} (S : Sim w xr b g z σ H) (ha : a ∈ g.al) : Stp g H g (upd H a o) :=
  ⟨.refl _, .refl _, fun a h => .inl h, fun c v e n => by rw [upd_ne (fun q : c = a => n (by rw [q]; exact ha))]; exact e⟩
theorem s_popD {cf : CF} {o e f : Expr} {io ie if' : E} {apos cpos : Pos} (hb : baseOk o = true) (he0 : Expr.star e = false) (hf0 : Expr.star f = false) (hl : (apos.endLine == cpos.line) = true)
    (ho : SndB w xr X W o fun z => fst1 (evalE cf io z)) (he : SndB w xr X W e fun z => fst1 (evalE cf ie z)) (hf : SndF w xr X W f fun z => fst1 (evalE cf if' z)) :
    SndE w xr X W (.Call (.Attribute o "pop" apos) [e, f] [] cpos) (evalE cf (.popD io ie if')) := by
  obtain ⟨to, po, qo⟩ := ho
  obtain ⟨te, pe, qe⟩ := he
  obtain ⟨tf, pf, qf⟩ := hf
  refine ⟨_, pe_dpop2 po pe pf (m2_of hb he0 hf0 hl), fun b g z σ H Q S k => qo b g z σ H _ S ?_⟩
  simp only [evalE] at k
  simp only [fst1]
  cases r : evalE cf io z with
  | stuck => rw [r] at k; exact k
  | exc c x z' => rw [r] at k; exact k
  | ok x z1 =>
    rw [r] at k
    simp only [R.bind_ok] at k
    intro g1 v H1 st1 S1 rx
    have k1 := PostE.step S1 st1 k
    split at k1
    · rename_i hd
      obtain ⟨a, rfl, hI⟩ := isD_of S1 rx hd
      refine ⟨a, rfl, hI, qe b g1 z1 σ H1 _ S1 ?_⟩
      simp only [fst1]
      cases r2 : evalE cf ie z1 with
      | stuck => rw [r2] at k1; exact k1
      | exc c x z' => rw [r2] at k1; exact k1
      | ok y z2 =>
        rw [r2] at k1
        simp only [R.bind_ok] at k1
        intro g2 u H2 st2 S2 ry
        have k2 := PostE.step S2 st2 k1
        refine qf b g2 z2 σ H2 _ S2 ?_
        simp only [fst1]
        cases r3 : evalE cf if' z2 with
        | stuck => rw [r3] at k2; exact k2
        | exc c x z' => rw [r3] at k2; exact k2
        | ok d z3 =>
          rw [r3] at k2
          simp only [R.bind_ok] at k2
          intro g3 t H3 st3 S3 rd
          have k3 := PostE.step S3 st3 k2
          have ry3 := ry.mono st3
          have rx3 := (rx.mono st2).mono st3
          unfold popZ at k3
          split at k3
          · rename_i i hx
            have rx4 : Rp g3.F g3.al (.box i) (.ref a) := by
              have := rx3
              rw [hx] at this
              exact this
            simp only [Rp] at rx4
            obtain ⟨a', ha, e'⟩ := rx4
            cases e'
            split at k3
            · rename_i kvs hi
              split at k3
              · rename_i hok
                rw [Bool.and_eq_true] at hok
                obtain ⟨kk, ek⟩ := keyOk_kD hok.1
                obtain ⟨rfl, hkk⟩ := rb_key ry3 ek
                obtain ⟨a2, ha2, q⟩ := S3.boxAt hi
                rw [ha] at ha2; cases ha2
                rcases q with ⟨l, q, rr⟩ | ⟨l, q, rr⟩
                · have lo := lookD_of (k := kk) rr
                  rw [ek] at k3
                  have S4 : ∀ {l'}, Rkv g3.F g3.al (delD (kD kk) kvs) l' → Sim w xr b g3 { z3 with os := z3.os.set i (.dct (delD (kD kk) kvs)) } σ (upd H3 a (.dK l')) := fun {l'} h => S3.updBox ha (.inl ⟨l', upd_same, h⟩)
                  refine ⟨l, kk, q, rfl, fun v' e3 => ?_, fun e3 => ?_⟩
                  · cases e2 : lookD kvs (kD kk) with
                    | none => rw [e2] at lo; rw [lo] at e3; cases e3
                    | some d' =>
                      rw [e2] at lo k3
                      obtain ⟨v2, e5, e4⟩ := lo
                      rw [e5] at e3; cases e3
                      exact k3 g3 _ _ (Stp.write S3 (List.mem_of_getElem? ha)) (S4 (delD_kv rr)) (Tmp.frozen e4)
                  · cases e2 : lookD kvs (kD kk) with
                    | some d' =>
                      rw [e2] at lo
                      obtain ⟨v2, e5, e4⟩ := lo
                      rw [e5] at e3; cases e3
                    | none =>
                      rw [e2] at k3
                      have same : dropK l kk = l := by
                        unfold dropK
                        refine List.filter_eq_self.mpr fun p hp => ?_
                        rw [decide_eq_true_eq]
                        intro hq
                        have : (valV l kk).isSome = true := by
                          rw [← valV_any kk l]
                          exact List.any_eq_true.mpr ⟨p, hp, by simpa using hq⟩
                        rw [e3] at this; cases this
                      have := S4 (delD_kv rr)
                      rw [same] at this
                      have eu : upd H3 a (.dK l) = H3 := by
                        funext c
                        by_cases hc : c = a
                        · rw [hc, upd_same, q]
                        · rw [upd_ne hc]
                      rw [eu] at this
                      exact k3 g3 _ _ (.refl _ _) this (Tmp.frozen rd)
                · exact (Rkt_keys rr hok.2).elim
              · exact k3.elim
            · exact k3.elim
          · exact k3.elim
    · exact k1.elim
end
end Vi

namespace Vi
open PySem L2

section
variable {w : Wd} {xr : Nat → Option Addr → V → Prop} {X : Cx} {W : WX} {b : Bs} {g g1 g2 : Gh} {z z1 z2 : Z} {σ : St} {H H1 H2 : Hp}

theorem Sim.unrs {p : Addr} (S : Sim w xr { b with rs := p :: b.rs } g z σ H) : Sim w xr b g z σ H := by
  refine ⟨S.sub, S.new, S.kept, S.pF, S.pre, S.alnew, S.alF, S.nd, S.box, S.len, S.ln, fun i e he => ?_, S.dis, fun a ha => S.rs a (List.mem_cons_of_mem _ ha)⟩
  have q := S.ent i e he
  cases e with
  | no => trivial
  | ex c x => exact q
  | bor d => exact q
  | val d fr =>
    obtain ⟨v, e1, e2⟩ := q
    refine ⟨v, e1, ?_⟩
    unfold ValRel at e2 ⊢
    split
    · rename_i hc
      rw [if_pos hc] at e2
      obtain ⟨a, ea, ow⟩ := e2
      exact ⟨a, ea, ⟨ow.nF, ow.nB, ow.nH, fun h => ow.nR (List.mem_cons_of_mem _ h), ow.cl⟩⟩
    · rename_i hc
      rw [if_neg hc] at e2
      exact e2
theorem Sim.tors {p : Addr} {o : HO} (S0 : Sim w xr b g z σ H) (hp : H p = none) : Sim w xr { b with rs := p :: b.rs } g z σ (upd H p o) := by
  have S := S0.alloc (o := o) hp
  refine ⟨S.sub, S.new, S.kept, S.pF, S.pre, S.alnew, S.alF, S.nd, S.box, S.len, S.ln, fun i e he => ?_, S.dis, fun a ha => ?_⟩
  · have q := S.ent i e he
    cases e with
    | no => trivial
    | ex c x => exact q
    | bor d => exact q
    | val d fr =>
      obtain ⟨v, e1, e2⟩ := q
      refine ⟨v, e1, ?_⟩
      unfold ValRel at e2 ⊢
      split
      · rename_i hc
        rw [if_pos hc] at e2
        obtain ⟨a, ea, ow⟩ := e2
        refine ⟨a, ea, ⟨ow.nF, ow.nB, ow.nH, fun h => ?_, ow.cl⟩⟩
        rcases List.mem_cons.mp h with h | h
        · obtain ⟨a', q1, _, q3⟩ := S0.ownAt he hc
          rw [e1] at q1; cases q1
          cases ea
          obtain ⟨u, hu⟩ := q3.cl.there
          rw [h, hp] at hu; cases hu
        · exact ow.nR h
      · rename_i hc
        rw [if_neg hc] at e2
        exact e2
  · rcases List.mem_cons.mp ha with h | h
    · subst h; exact ⟨S0.freshF hp, S0.freshB hp, o, upd_same⟩
    · exact S.rs a h

/-! ### {k: v, ..} -/
def Rpp (F : Hp) (al : List Addr) : List (D × D) → List (V × V) → Prop
  | [], ps => ps = []
  | (k, d) :: r, ps => ∃ kv v q, ps = (kv, v) :: q ∧ Rp F al k kv ∧ Rp F al d v ∧ Rpp F al r q
theorem Rpp.mono {F G : Hp} {al bl : List Addr} (h : Sub F G) (p : Pre al bl) : ∀ {kvs : List (D × D)} {ps : List (V × V)}, Rpp F al kvs ps → Rpp G bl kvs ps
  | [], ps, r => r
  | (k, d) :: kvs, ps, r => by
    obtain ⟨kv, v, q, e, h1, h2, h3⟩ := r
    exact ⟨kv, v, q, e, Rp.mono h p _ _ h1, Rp.mono h p _ _ h2, h3.mono h p⟩
def PostP (w : Wd) (xr : Nat → Option Addr → V → Prop) (W : WX) (b : Bs) (g : Gh) (σ : St) (H : Hp) (Q : List (V × V) → Hp → Prop) : R Z (List D) → Prop
  | .ok ds z' => ∀ g' ps kvs H', Stp g H g' H' → Sim w xr b g' z' σ H' → pairUp ds = some kvs → Rpp g'.F g'.al kvs ps → Q ps H'
  | .exc c x z' => ∀ g' cls dd H', Stp g H g' H' → Sim w xr b g' z' σ H' → XR w.cad g' c x cls dd H' → W cls dd σ H'
  | .stuck => False
theorem PostP.step {Q : List (V × V) → Hp → Prop} {r : R Z (List D)} (st : Stp g H g2 H2) (k : PostP w xr W b g σ H Q r) : PostP w xr W b g2 σ H2 Q r := by
  cases r with
  | ok a z' => exact fun g' v kvs H' s' S' => k g' v kvs H' (st.trans s') S'
  | exc c x z' => exact fun g' cls dd H' s' S' t => k g' cls dd H' (st.trans s') S' t
  | stuck => exact k.elim
def SndPs (w : Wd) (xr : Nat → Option Addr → V → Prop) (X : Cx) (W : WX) (pos : Pos) (ks : List (Option Expr)) (vs : List Expr) (f : Z → R Z (List D)) : Prop :=
  ∃ t, PPs X pos ks vs t ∧ ∀ b g z σ H Q, Sim w xr b g z σ H → PostP w xr W b g σ H Q (f z) → tPairs t σ H Q
theorem pps_nil' {cf : CF} {pos : Pos} : SndPs w xr X W pos [] [] (evalEs cf []) := ⟨_, pps_nil, fun b g z σ H Q S k => k g [] [] H (.refl _ _) S rfl rfl⟩
theorem pps_cons' {cf : CF} {pos : Pos} {k v : Expr} {ik iv : E} {is : List E} {ks : List (Option Expr)} {vs : List Expr} (hk : SndF w xr X W k fun z => fst1 (evalE cf ik z)) (hv : SndF w xr X W v fun z => fst1 (evalE cf iv z)) (hr : SndPs w xr X W pos ks vs (evalEs cf is)) :
    SndPs w xr X W pos (some k :: ks) (v :: vs) (evalEs cf (ik :: iv :: is)) := by
  obtain ⟨tk, pk, qk⟩ := hk
  obtain ⟨tv, pv, qv⟩ := hv
  obtain ⟨tr, pr, qr⟩ := hr
  refine ⟨_, pps_cons pk pv pr, fun b g z σ H Q S kk => qk b g z σ H _ S ?_⟩
  simp only [evalEs] at kk
  simp only [fst1]
  cases r1 : evalE cf ik z with
  | stuck => rw [r1] at kk; exact kk
  | exc c x z' => rw [r1] at kk; exact kk
  | ok x z1 =>
    rw [r1] at kk
    simp only [R.bind_ok] at kk
    intro g1 v1 H1 st1 S1 rx
    have k1 := PostP.step st1 kk
    refine qv b g1 z1 σ H1 _ S1 ?_
    simp only [fst1]
    cases r2 : evalE cf iv z1 with
    | stuck => rw [r2] at k1; exact k1
    | exc c x z' => rw [r2] at k1; exact k1
    | ok y z2 =>
      rw [r2] at k1
      simp only [R.bind_ok] at k1
      intro g2 v2 H2 st2 S2 ry
      have k2 := PostP.step st2 k1
      refine qr b g2 z2 σ H2 _ S2 ?_
      cases r3 : evalEs cf is z2 with
      | stuck => rw [r3] at k2; exact k2
      | exc c x z' => rw [r3] at k2; exact k2
      | ok ds z3 =>
        rw [r3] at k2
        simp only [R.bind_ok] at k2
        intro g3 ps kvs H3 st3 S3 hp rr
        exact k2 g3 ((v1, v2) :: ps) ((x.1, y.1) :: kvs) H3 st3 S3 (by simp [pairUp, hp]) ⟨v1, v2, ps, rfl, Rp.mono (st2.trans st3).F (st2.trans st3).al _ _ rx, Rp.mono st3.F st3.al _ _ ry, rr⟩
theorem merge_kv {F : Hp} {al : List Addr} : ∀ {kvs : List (D × D)} {ps : List (V × V)} {acc : List (D × D)} {l : List (Key × V)}, Rpp F al kvs ps → (kvs.all fun p => keyOk p.1) = true → Rkv F al acc l →
    ∃ kl : List (Key × V), ps = kl.map (fun kv => (kV kv.1, kv.2)) ∧ kl.length = kvs.length ∧ Rkv F al (kvs.foldl (fun acc p => putD p.1 p.2 acc) acc) (mergeK l kl)
  | [], ps, acc, l, h, _, ha => by
    simp only [Rpp] at h; subst h
    exact ⟨[], rfl, rfl, ha⟩
  | (k, d) :: kvs, ps, acc, l, h, hk, ha => by
    obtain ⟨kv, v, q, rfl, h1, h2, h3⟩ := h
    rw [List.all_cons, Bool.and_eq_true] at hk
    obtain ⟨kk, rfl⟩ := keyOk_kD hk.1
    obtain ⟨kl, e1, e2, e3⟩ := merge_kv h3 hk.2 (putD_kv (rp_kOk h1) h2 ha)
    refine ⟨(kk, v) :: kl, by rw [List.map_cons, ← e1, kD_rp h1], by simp [e2], e3⟩
theorem s_dsp {cf : CF} {pos : Pos} {ks : List (Option Expr)} {vs : List Expr} {is : List E} (h1 : ks.all (·.isSome) = true) (h2 : ks.length = vs.length) (h3 : ks ≠ []) (h4 : ks.length ≤ 15) (h : SndPs w xr X W pos ks vs (evalEs cf is)) :
    SndE w xr X W (.Dict ks vs pos) (evalE cf (.dct is)) := by
  obtain ⟨t, p, q⟩ := h
  refine ⟨_, pe_disp p h1 h2 h3 h4, fun b g z σ H Q S k => fun a ha => q { b with rs := a :: b.rs } g z σ _ _ (S.tors ha) ?_⟩
  simp only [evalE] at k
  have st0 : Stp g H g (upd H a (.dK [])) := Stp.alloc ha
  cases r : evalEs cf is z with
  | stuck => rw [r] at k; exact k
  | exc c x z' =>
    rw [r] at k
    exact fun g' cls dd H' st S' x => k g' cls dd H' (st0.trans st) S'.unrs x
  | ok ds z1 =>
    rw [r] at k
    simp only [R.bind_ok] at k
    intro g1 ps kvs H1 st1 S1 hp rr
    unfold dspZ at k
    rw [hp] at k
    simp only at k
    split at k
    · rename_i hc
      simp only [Bool.and_eq_true, decide_eq_true_eq] at hc
      obtain ⟨kl, e1, e2, e3⟩ := merge_kv (acc := []) (l := []) rr hc.1 (by simp [Rkv])
      have hx : H1 a = some (.dK []) := st1.keep a _ upd_same (S.freshB ha)
      obtain ⟨nF, nB, _⟩ := S1.rs a (by simp)
      refine ⟨hx, kl, e1, by rw [e2]; exact hc.2, ?_⟩
      have S2 := S1.updR (c := a) (by simp) (S.freshH ha) (.dK (mergeK [] kl))
      have st := st0.trans st1
      refine k g1 (.ref a) _ ⟨st.F, st.al, st.alnew, fun c o e n => ?_⟩ S2.unrs ?_
      · rw [upd_ne (ne_of_none e ha)]
        exact st.keep c o e n
      · unfold Tmp
        rw [if_pos (by simp [D.cell])]
        refine ⟨a, rfl, ⟨nF, nB, S.freshH ha, S.freshR ha, .inl ⟨_, upd_same, e3⟩⟩, fun i e he ho qq => ?_, ha⟩
        cases e with
        | no => cases ho
        | ex c x => cases ho
        | bor d => cases ho
        | val d' fr =>
          obtain ⟨a', q1, q2, q3⟩ := S2.ownAt he ho
          rw [q2] at qq; cases qq
          exact q3.nR (by simp)
    · exact k.elim

/-! ### x[k] = e, x a dict -/
theorem dicAt_some (S : Sim w xr b g z σ H) {i : Nat} {ds : List (D × D)} (h : dicAt z i = some ds) (hk : (ds.all fun p => keyOk p.1) = true) : ∃ a l, σ[i]? = some (some (.ref a)) ∧ H a = some (.dK l) ∧ Rkv g.F g.al ds l ∧ ∀ ds' l', Rkv g.F g.al ds' l' → Sim w xr b g (putDc z i ds') σ (upd H a (.dK l')) := by
  unfold dicAt at h
  split at h
  · rename_i ds0 he
    cases h
    obtain ⟨a, h1, h2, ow⟩ := S.ownAt he (by simp [D.cell])
    rcases ow.cl with ⟨l, h3, h4⟩ | ⟨l, h3, h4⟩
    · refine ⟨a, l, h1, h3, h4, fun ds' xs' r => ?_⟩
      unfold putDc
      rw [he]
      exact S.updOwn he (by simp [D.cell]) (by simp [D.cell]) h1 (.inl ⟨xs', upd_same, r⟩)
    · exact (Rkt_keys h4 hk).elim
  · rename_i k fr he
    split at h
    · rename_i ds0 hk0
      cases h
      obtain ⟨v, h1, h2⟩ := S.ent i _ he
      unfold ValRel at h2
      rw [if_neg (by simp [D.cell])] at h2
      simp only [Rp] at h2
      obtain ⟨a, h3, rfl⟩ := h2
      obtain ⟨a', h4, q⟩ := S.boxAt hk0
      rw [h3] at h4; cases h4
      rcases q with ⟨l, h5, h6⟩ | ⟨l, h5, h6⟩
      · refine ⟨a, l, h1, h5, h6, fun ds' xs' r => ?_⟩
        unfold putDc
        rw [he]
        exact S.updBox h3 (.inl ⟨xs', upd_same, r⟩)
      · exact (Rkt_keys h6 hk).elim
    · cases h
  · cases h
theorem dicAt_ref (S : Sim w xr b g z σ H) {i : Nat} {ds : List (D × D)} (h : dicAt z i = some ds) : ∃ a, σ[i]? = some (some (.ref a)) ∧ IsD H a := by
  unfold dicAt at h
  split at h
  · rename_i ds0 he
    cases h
    obtain ⟨a, h1, h2, ow⟩ := S.ownAt he (by simp [D.cell])
    refine ⟨a, h1, ?_⟩
    rcases ow.cl with ⟨l, h3, _⟩ | ⟨l, h3, _⟩
    · exact .inl ⟨l, .inl h3⟩
    · exact .inr ⟨l, .inl h3⟩
  · rename_i k fr he
    split at h
    · rename_i ds0 hk0
      cases h
      obtain ⟨v, h1, h2⟩ := S.ent i _ he
      unfold ValRel at h2
      rw [if_neg (by simp [D.cell])] at h2
      simp only [Rp] at h2
      obtain ⟨a, h3, rfl⟩ := h2
      obtain ⟨a', h4, q⟩ := S.boxAt hk0
      rw [h3] at h4; cases h4
      refine ⟨a, h1, ?_⟩
      rcases q with ⟨l, h5, _⟩ | ⟨l, h5, _⟩
      · exact .inl ⟨l, .inl h5⟩
      · exact .inr ⟨l, .inl h5⟩
    · cases h
  · cases h
theorem putKO_of {k y : D} {kvs kvs' : List (D × D)} (h : putKO k y kvs = some kvs') : ∃ kk : Key, k = kD kk ∧ (kvs.all fun p => keyOk p.1) = true ∧ kvs.length < sizeLine ∧ kvs' = putD (kD kk) y kvs := by
  unfold putKO at h
  split at h
  · rename_i hc
    rw [Bool.and_eq_true] at hc
    obtain ⟨kk, rfl⟩ := keyOk_kD hc.1.1
    cases h
    exact ⟨kk, rfl, hc.1.2, hc.2, rfl⟩
  · cases h
theorem s_setD {cf : CF} {n : Nat} {x : Str} {ei e : Expr} {ii ie : E} {xpos spos pos : Pos} (hu : X.A.units + 64 < cLine) (hN : X.N[n]? = some x) (hv : Vis X.env.scope x) (hd : (x == ("__debug__" : Str)) = false) (hcd : (x == ("__classdict__" : Str)) = false)
    (hs : swapsWith e (some (.Subscript (.Name x xpos) ei spos)) pos.line X.env = pure false) (he : SndE w xr X W e (evalE cf ie)) (hi : SndB w xr X W ei fun z => fst1 (evalE cf ii z)) :
    SndS w xr X W (.Assign [.Subscript (.Name x xpos) ei spos] e pos) (execS cf (.setD n ii ie)) := by
  obtain ⟨t, p, q⟩ := he.F
  obtain ⟨t2, p2, q2⟩ := hi
  refine ⟨_, ps_dput (by omega) (pe_var hN hv hd hcd) p2 p hs, fun b g z σ H D S k => q b g z σ H _ S ?_⟩
  simp only [execS] at k
  simp only [fst1]
  cases r1 : evalE cf ie z with
  | stuck => rw [r1] at k; exact k
  | exc c x z' => rw [r1] at k; exact exc_of k
  | ok y z1 =>
    rw [r1] at k
    simp only [R.bind_ok] at k
    intro g1 v H1 st1 S1 rv
    have k1 := PostS.step st1.le k
    split at k1
    · rename_i ds0 hl0
      obtain ⟨a, h1, _⟩ := dicAt_ref S1 hl0
      refine ⟨.ref a, h1, q2 b g1 z1 σ H1 _ S1 ?_⟩
      simp only [fst1]
      cases r2 : evalE cf ii z1 with
      | stuck => rw [r2] at k1; exact k1
      | exc c x z' => rw [r2] at k1; exact exc_of k1
      | ok j z2 =>
        rw [r2] at k1
        simp only [R.bind_ok] at k1
        intro g2 jv H2 st2 S2 rj
        split at k1
        · rename_i ds hl
          split at k1
          · rename_i ds' hm
            obtain ⟨kk, ek, hk, hlt, rfl⟩ := putKO_of hm
            obtain ⟨a', l, h4, h5, h6, h7⟩ := dicAt_some S2 hl hk
            rw [h1] at h4; cases h4
            obtain ⟨rfl, ho⟩ := rb_key rj ek
            exact ⟨a, _, rfl, DPut.k h5 (by rw [rkv_len h6]; exact hlt), k1 g2 σ _ st2.le (h7 _ _ (putD_kv ho (Rp.mono st2.F st2.al _ _ rv) h6))⟩
          · exact k1.elim
        · exact k1.elim
    · exact k1.elim

/-! ### o[i] = e, o a box -/
theorem setC_of {ds ds' : List D} {j y : D} (h : setC ds j y = some ds') : ∃ (i : Int) (n : Nat), j = .int i ∧ ixN ds.length i = some n ∧ ds' = ds.set n y := by
  unfold setC at h
  split at h
  · rename_i i
    obtain ⟨n, h1, rfl⟩ := Option.map_eq_some_iff.mp h
    exact ⟨i, n, rfl, h1, rfl⟩
  · cases h
theorem PS.or {st : Stmt} {t1 t2 : TS} (h1 : PS X st t1) (h2 : PS X st t2) : PS X st (fun D σ H => t1 D σ H ∨ t2 D σ H) :=
  ⟨fun pins s σ H D I h => h.elim (h1.run pins s σ H D I) (h2.run pins s σ H D I)⟩
theorem stI_box {z3 : Z} {x j d : Vi.D} {f : Fl} {z' : Z} : stI z3 x j d = .ok f z' → ∃ k, x = .box k ∧ f = .next ∧ ((∃ ds ds', z3.os[k]? = some (.lst ds) ∧ setC ds j d = some ds' ∧ z' = { z3 with os := z3.os.set k (.lst ds') }) ∨ ∃ kvs kvs', z3.os[k]? = some (.dct kvs) ∧ putKO j d kvs = some kvs' ∧ z' = { z3 with os := z3.os.set k (.dct kvs') }) := by
  intro h
  unfold stI at h
  split at h
  · rename_i k
    refine ⟨k, rfl, ?_⟩
    split at h
    · rename_i ds hk
      split at h
      · rename_i ds' hs
        cases h
        exact ⟨rfl, .inl ⟨ds, ds', hk, hs, rfl⟩⟩
      · cases h
    · rename_i kvs hk
      split at h
      · rename_i ds' hs
        cases h
        exact ⟨rfl, .inr ⟨kvs, ds', hk, hs, rfl⟩⟩
      · cases h
    · cases h
  · cases h
theorem setIx_go {cf : CF} {e eo ei : Expr} {io ii ie : E} {t to t2 : TE} {D : Ends} {Q : V → V → V → Hp → Prop}
    (q : ∀ b g z σ H Q, Sim w xr b g z σ H → PostF w xr W b g σ H Q (fst1 (evalE cf ie z)) → t σ H Q)
    (qo : ∀ b g z σ H Q, Sim w xr b g z σ H → PostB w xr W b g σ H Q (fst1 (evalE cf io z)) → to σ H Q)
    (q2 : ∀ b g z σ H Q, Sim w xr b g z σ H → PostB w xr W b g σ H Q (fst1 (evalE cf ii z)) → t2 σ H Q)
    (S : Sim w xr b g z σ H) (k : PostS w xr W b g D ((evalE cf ie z).bind fun d z => (evalE cf io z).bind fun x z => (evalE cf ii z).bind fun j z => stI z x.1 j.1 d.1))
    (kQ : ∀ g3 y z1 x z2 j z3 v ov iv H3, evalE cf ie z = .ok y z1 → evalE cf io z1 = .ok x z2 → evalE cf ii z2 = .ok j z3 → Le g g3 → Sim w xr b g3 z3 σ H3 → Rp g3.F g3.al y.1 v → Rb w g3 H3 x.1 ov → Rb w g3 H3 j.1 iv → PostS w xr W b g3 D (stI z3 x.1 j.1 y.1) → Q v ov iv H3) :
    t σ H fun v H1 => to σ H1 fun ov H2 => t2 σ H2 fun iv H3 => Q v ov iv H3 := by
  refine q b g z σ H _ S ?_
  simp only [fst1]
  cases r1 : evalE cf ie z with
  | stuck => rw [r1] at k; exact k
  | exc c x z' => rw [r1] at k; exact exc_of k
  | ok y z1 =>
    rw [r1] at k
    simp only [R.bind_ok] at k
    intro g1 v H1 st1 S1 rv
    have k1 := PostS.step st1.le k
    refine qo b g1 z1 σ H1 _ S1 ?_
    simp only [fst1]
    cases r2 : evalE cf io z1 with
    | stuck => rw [r2] at k1; exact k1
    | exc c x z' => rw [r2] at k1; exact exc_of k1
    | ok x z2 =>
      rw [r2] at k1
      simp only [R.bind_ok] at k1
      intro g2 ov H2 st2 S2 rx
      have k2 := PostS.step st2.le k1
      refine q2 b g2 z2 σ H2 _ S2 ?_
      simp only [fst1]
      cases r3 : evalE cf ii z2 with
      | stuck => rw [r3] at k2; exact k2
      | exc c x z' => rw [r3] at k2; exact exc_of k2
      | ok j z3 =>
        rw [r3] at k2
        simp only [R.bind_ok] at k2
        intro g3 iv H3 st3 S3 rj
        have k3 := PostS.step st3.le k2
        exact kQ g3 y z1 x z2 j z3 v ov iv H3 r1 r2 r3 ((st1.le.trans st2.le).trans st3.le) S3 (Rp.mono (st2.trans st3).F (st2.trans st3).al _ _ rv) (rx.mono st3) rj k3
theorem s_setIx {cf : CF} {eo ei e : Expr} {io ii ie : E} {spos pos : Pos} (hu : X.A.units + 64 < cLine)
    (ha : ∀ v, assign (.Subscript eo ei spos) X.env v = (do
      let ov ← holding [v] (eval eo X.env)
      let iv ← holding [v, ov] (eval ei X.env)
      standAt spos
      holding [v, ov, iv] (setItem ov iv v)
      release [v, ov, iv] []))
    (hs : swapsWithSole [.Subscript eo ei spos] e pos.line X.env = pure false) (hw : swappedStores [.Subscript eo ei spos] e X.env = pure none)
    (hs2 : swapsWith e (some (.Subscript eo ei spos)) pos.line X.env = pure false) (he : SndE w xr X W e (evalE cf ie)) (ho : SndB w xr X W eo fun z => fst1 (evalE cf io z)) (hi : SndB w xr X W ei fun z => fst1 (evalE cf ii z)) :
    SndS w xr X W (.Assign [.Subscript eo ei spos] e pos) (execS cf (.setIx io ii ie)) := by
  obtain ⟨t, p, q⟩ := he.F
  obtain ⟨to, po, qo⟩ := ho
  obtain ⟨t2, p2, q2⟩ := hi
  refine ⟨_, PS.or (ps_asg p (pg_sub po p2 set_list ha) hs hw) (ps_dput (by omega) po p2 p hs2), fun b g z σ H D S k => ?_⟩
  simp only [execS] at k
  by_cases hL : ∃ y z1 x z2 j z3 ds, evalE cf ie z = .ok y z1 ∧ evalE cf io z1 = .ok x z2 ∧ evalE cf ii z2 = .ok j z3 ∧ lisB z3 x.1 = some ds
  · refine .inl (setIx_go (e := e) (eo := eo) (ei := ei) q qo q2 S k fun g3 y z1 x z2 j z3 v ov iv H3 r1 r2 r3 l S3 rv rx rj k3 => ?_)
    obtain ⟨y', z1', x', z2', j', z3', ds, e1, e2, e3, e4⟩ := hL
    rw [r1] at e1; cases e1
    rw [r2] at e2; cases e2
    rw [r3] at e3; cases e3
    cases r : stI z3 x.1 j.1 y.1 with
    | stuck => rw [r] at k3; exact k3.elim
    | exc c u z' =>
      exfalso
      unfold stI at r
      split at r
      · split at r
        · split at r <;> cases r
        · split at r <;> cases r
        · cases r
      · cases r
    | ok f z4 =>
      rw [r] at k3
      obtain ⟨n, ex, rfl, h⟩ := stI_box r
      rw [ex] at e4 rx
      rcases h with ⟨ds0, ds', h1, h2, rfl⟩ | ⟨kvs, kvs', h1, h2, rfl⟩
      · obtain ⟨i, m, ej, hm, rfl⟩ := setC_of h2
        rw [ej] at rj
        have rx' : Rp g3.F g3.al (.box n) ov := rx
        simp only [Rp] at rx'
        obtain ⟨a, ha1, rfl⟩ := rx'
        obtain ⟨a', ha2, xs, h5, h6⟩ := S3.boxAt h1
        rw [ha1] at ha2; cases ha2
        rw [rj.int]
        refine ⟨a, xs, i, m, rfl, rfl, h5, by rw [h6.length]; exact hm, k3 g3 σ _ (.refl _) (S3.updBox ha1 ⟨_, upd_same, Rps.set rv _ h6⟩)⟩
      · unfold lisB at e4
        simp only [h1] at e4
        cases e4
  · refine .inr (setIx_go (e := e) (eo := eo) (ei := ei) q qo q2 S k fun g3 y z1 x z2 j z3 v ov iv H3 r1 r2 r3 l S3 rv rx rj k3 => ?_)
    cases r : stI z3 x.1 j.1 y.1 with
    | stuck => rw [r] at k3; exact k3.elim
    | exc c u z' =>
      exfalso
      unfold stI at r
      split at r
      · split at r
        · split at r <;> cases r
        · split at r <;> cases r
        · cases r
      · cases r
    | ok f z4 =>
      rw [r] at k3
      obtain ⟨n, ex, rfl, h⟩ := stI_box r
      rcases h with ⟨ds0, ds', h1, h2, rfl⟩ | ⟨kvs, kvs', h1, h2, rfl⟩
      · refine (hL ⟨y, z1, x, z2, j, z3, ds0, r1, r2, r3, ?_⟩).elim
        rw [ex]; unfold lisB; simp only [h1]
      · rw [ex] at rx
        have rx' : Rp g3.F g3.al (.box n) ov := rx
        simp only [Rp] at rx'
        obtain ⟨a, ha1, rfl⟩ := rx'
        obtain ⟨kk, ek, hk, hlt, rfl⟩ := putKO_of h2
        obtain ⟨rfl, hok⟩ := rb_key rj ek
        obtain ⟨a', ha2, h⟩ := S3.boxAt h1
        rw [ha1] at ha2; cases ha2
        rcases h with ⟨l', h5, h6⟩ | ⟨l', h5, h6⟩
        · exact ⟨a, _, rfl, DPut.k h5 (by rw [rkv_len h6]; exact hlt), k3 g3 σ _ (.refl _) (S3.updBox ha1 (.inl ⟨_, upd_same, putD_kv hok rv h6⟩))⟩
        · exact (Rkt_keys h6 hk).elim
end
end Vi

namespace Vi
open PySem L2

section
variable {w : Wd} {xr : Nat → Option Addr → V → Prop} {X : Cx} {W : WX} {b : Bs} {g g1 g2 : Gh} {z z1 z2 : Z} {σ : St} {H H1 H2 : Hp}

/-! ### {} -/
theorem s_dct0 {cf : CF} {pos : Pos} : SndE w xr X W (.Dict [] [] pos) (evalE cf (.dct [])) := by
  refine ⟨_, pe_dnewK, fun b g z σ H Q S k => fun p hp => ?_⟩
  simp only [evalE, evalEs, R.bind_ok, dspZ, pairUp] at k
  have hc : Cel g.F g.al (upd H p (.dK [])) p (.dct []) := .inl ⟨[], upd_same, by simp [Rkv]⟩
  exact PostE.new S hp rfl hc (by simpa using k)

/-! ### for k in d, d a dict in a box -/
theorem Sim.reLk (S : Sim w xr b g z σ H) {lk' : Addr → Obj × HO} {i : Nat} {x : Bx} {a : Addr} {o : HO} (ha : g.al[i]? = some a) (hl : ∀ c, c ≠ a → lk' c = b.lk c) (hc : BxRel w.cad lk' g.F g.al (upd H a o) x a) :
    Sim w xr { b with lk := lk' } g { z with os := z.os.set i x } σ (upd H a o) := by
  have hm := List.mem_of_getElem? ha
  have k : ∀ c v, c ≠ a → H c = some v → upd H a o c = some v := fun c v n e => by rw [upd_ne n]; exact e
  refine ⟨fun c v e => k c v (fun q => by subst q; rw [S.alF _ hm] at e; cases e) (S.sub c v e), S.new, fun c v e n => k c v (fun q => ?_) (S.kept c v e n), S.pF, S.pre, S.alnew, S.alF, S.nd, ?_, S.len, S.ln, fun j e hj => ?_, S.dis, fun c hc' => ?_⟩
  · subst q
    rcases S.alnew _ hm with q | q
    · exact n q
    · rw [e] at q; cases q
  · refine Paired.setB S.box ha S.nd hc fun x y n q => ?_
    have q' := q.mono (.refl _) (.refl _) fun v e => k _ v n e
    cases x with
    | lkd kvs =>
      unfold BxRel at q' ⊢
      dsimp only at q' ⊢
      rw [hl y n]
      exact q'
    | _ => exact q'
  · have q := S.ent j e hj
    cases e with
    | no => trivial
    | ex c x => exact q
    | bor d => exact q
    | val d2 fr =>
      obtain ⟨v, e1, e2⟩ := q
      refine ⟨v, e1, ?_⟩
      unfold ValRel at e2 ⊢
      split
      · rename_i hcc
        rw [if_pos hcc] at e2
        obtain ⟨c, ea, ow2⟩ := e2
        exact ⟨c, ea, ow2.nF, ow2.nB, ow2.nH, ow2.nR, ow2.cl.mono (.refl _) (.refl _) fun v e => k _ v (fun q => ow2.nB (q ▸ hm)) e⟩
      · rename_i hcc
        rw [if_neg hcc] at e2
        exact e2
  · obtain ⟨h3, h4, v, h5⟩ := S.rs c hc'
    exact ⟨h3, h4, v, k c v (fun q => h4 (q ▸ hm)) h5⟩
theorem ValRel.reLk {lk' : Addr → Obj × HO} {a : Addr} {o : HO} {d : D} {fr : Bool} {v : V} (hm : a ∈ g.al) (h : ValRel w { b with lk := lk' } g H d fr v) : ValRel w b g (upd H a o) d fr v := by
  unfold ValRel at h ⊢
  split
  · rename_i hcc
    rw [if_pos hcc] at h
    obtain ⟨c, ea, ow2⟩ := h
    refine ⟨c, ea, ow2.nF, ow2.nB, ow2.nH, ow2.nR, ow2.cl.mono (.refl _) (.refl _) fun v e => ?_⟩
    rw [upd_ne (fun q : c = a => ow2.nB (q ▸ hm))]; exact e
  · rename_i hcc
    rw [if_neg hcc] at h
    exact h
theorem Pre.get_eq {al al' : List Addr} (h : Pre al al') {i : Nat} {a c : Addr} (h1 : al[i]? = some a) (h2 : al'[i]? = some c) : c = a := by
  rw [h.get h1] at h2; exact (Option.some.inj h2).symm
theorem unlk_post {D : Ends} {r : R Z Fl} {lk' : Addr → Obj × HO} {i : Nat} {kvs : List (Vi.D × Vi.D)} {a : Addr} {od : Obj} {l : List (Key × V)} (k : PostS w xr W b g D (unlk i kvs r)) (ha : g.al[i]? = some a) (e0 : lk' a = (od, .dK l)) (hl : ∀ c, c ≠ a → lk' c = b.lk c) :
    PostS w xr W { b with lk := lk' } g ⟨fun σ' H' => H' a = some (.frz od (.dK l)) ∧ D.nx σ' (upd H' a (.dK l)), fun v H' => H' a = some (.frz od (.dK l)) ∧ D.rt v (upd H' a (.dK l)), fun σ' H' => H' a = some (.frz od (.dK l)) ∧ D.bk σ' (upd H' a (.dK l)), fun σ' H' => H' a = some (.frz od (.dK l)) ∧ D.ct σ' (upd H' a (.dK l))⟩ r := by
  have main : ∀ g' z' σ' H', z'.os[i]? = some (.lkd kvs) → Le g g' → Sim w xr { b with lk := lk' } g' z' σ' H' → a ∈ g'.al ∧ H' a = some (.frz od (.dK l)) ∧ Sim w xr b g' { z' with os := z'.os.set i (.dct kvs) } σ' (upd H' a (.dK l)) := by
    intro g' z' σ' H' hi l' S'
    have ha' := l'.al.get ha
    obtain ⟨a2, h2, q, l0, q2, q3⟩ := S'.boxAt hi
    rw [ha'] at h2; cases h2
    have q0 : lk' a = (od, .dK l) := e0
    have q' : H' a = some (.frz (lk' a).1 (lk' a).2) := q
    have q2' : (lk' a).2 = .dK l0 := q2
    rw [q0] at q' q2'
    cases q2'
    exact ⟨List.mem_of_getElem? ha', q', S'.reLk (lk' := b.lk) ha' (fun c n => (hl c n).symm) (.inl ⟨l, upd_same, q3⟩)⟩
  cases r with
  | stuck => exact k
  | exc c x z' => exact k.elim
  | ok f z' =>
    unfold unlk at k
    dsimp only at k
    split at k
    · rename_i hi
      cases f with
      | next =>
        intro g' σ' H' l' S'
        obtain ⟨_, m1, m2⟩ := main g' z' σ' H' hi l' S'
        exact ⟨m1, k g' σ' _ l' m2⟩
      | cont =>
        intro g' σ' H' l' S'
        obtain ⟨_, m1, m2⟩ := main g' z' σ' H' hi l' S'
        exact ⟨m1, k g' σ' _ l' m2⟩
      | ret d fr =>
        intro g' σ' H' v l' S' rv
        obtain ⟨m0, m1, m2⟩ := main g' z' σ' H' hi l' S'
        exact ⟨m1, k g' σ' _ v l' m2 (ValRel.reLk m0 rv)⟩
    · exact k.elim
theorem kV_rp {F : Hp} {al : List Addr} {k : Key} (h : kOk k) : Rp F al (kD k) (kV k) := by
  cases k with
  | inl i => simp [kD, kV, Rp]
  | inr x => simp only [kD, kV, Rp]; exact ⟨trivial, h⟩
theorem rkv_get {F : Hp} {al : List Addr} : ∀ {kvs : List (D × D)} {l : List (Key × V)} {i : Nat} {k : Key} {v : V}, Rkv F al kvs l → l[i]? = some (k, v) → kOk k ∧ (kvs.map (·.1))[i]? = some (kD k)
  | [], l, i, k, v, r, e => by simp only [Rkv] at r; subst r; simp at e
  | (x, d) :: kvs, l, i, k, v, r, e => by
    simp only [Rkv] at r
    obtain ⟨kk, u, q, rfl, rfl, h1, h2⟩ := r
    cases i with
    | zero => simp at e; obtain ⟨rfl, rfl⟩ := e; exact ⟨h1.1, by simp⟩
    | succ i => simpa using rkv_get (i := i) h2 (by simpa using e)
theorem s_forD {cf : CF} {tg iter : Expr} {a : List Stmt} {t : Tg} {ie : E} {ia : List S} {pos : Pos} (hp : PassesOwn (model X.prog X.w) X.A X.env X.xe) (hc : X.calm = true) (hs : ∀ x, foldedSetIterable iter X.env x = pure x)
    (he : SndB w xr X W iter fun z => fst1 (evalE cf ie z)) (hg : SndGO w xr X tg t) (ha : SndSs w xr X W a (execB cf ia)) : SndS w xr X W (.For tg iter a [] pos) (execS cf (.for t .keys [ie] ia)) := by
  obtain ⟨te, pe, qe⟩ := he
  obtain ⟨gt, pg, qg⟩ := hg
  obtain ⟨ta, pa, qa⟩ := ha
  refine ⟨_, ps_lock (ps_for hp hc (pi_keys pe) pg pa hs), fun b g z σ H D S kk => ?_⟩
  simp only [execS] at kk
  unfold forD at kk
  split at kk
  · rename_i i fr1 z0 r1
    split at kk
    · rename_i kvs hi
      split at kk
      · rename_i hk
        split at kk
        · rename_i j fr2 z1 r2
          split at kk
          · rename_i hj
            obtain ⟨rfl, hz1⟩ := hj
            obtain ⟨a, ha1, hb⟩ := S.boxAt hi
            rcases hb with ⟨l, h5, h6⟩ | ⟨l, h5, h6⟩
            · refine ⟨a, .dK l, h5, trivial, fun od => ?_⟩
              let lk' : Addr → Obj × HO := fun c => if c = a then (od, .dK l) else b.lk c
              have e0 : lk' a = (od, .dK l) := if_pos rfl
              have hl : ∀ c, c ≠ a → lk' c = b.lk c := fun c n => if_neg n
              have S' : Sim w xr { b with lk := lk' } g { z with os := z.os.set j (.lkd kvs) } σ (upd H a (.frz od (.dK l))) := S.reLk ha1 hl ⟨by rw [e0]; exact upd_same, l, by rw [e0], h6⟩
              refine qe _ g _ σ _ _ S' ?_
              dsimp only [fst1]
              rw [r2]
              intro g1 v H1 st1 S1 rv
              have rv' : Rp g1.F g1.al (.box j) v := rv
              simp only [Rp] at rv'
              obtain ⟨a1, h7, rfl⟩ := rv'
              cases st1.al.get_eq ha1 h7
              have frz : ∀ {g : Gh} {z : Z} {σ : St} {H : Hp}, Sim w xr { b with lk := lk' } g z σ H → g.al[j]? = some a → z.os[j]? = some (.lkd kvs) → H a = some (.frz od (.dK l)) ∧ Rkv g.F g.al kvs l := fun {g z σ H} S2 ha2 hz => by
                obtain ⟨a2, h8, q, l0, q2, q3⟩ := S2.boxAt hz
                rw [ha2] at h8; cases h8
                have q' : H a = some (.frz (lk' a).1 (lk' a).2) := q
                have q2' : (lk' a).2 = .dK l0 := q2
                rw [e0] at q' q2'
                cases q2'
                exact ⟨q', q3⟩
              refine ⟨a, od, rfl, .inl ⟨l, (frz S1 h7 hz1).1, ?_⟩⟩
              have k1 := unlk_post (W := W) (PostS.step (g2 := g1) st1.le kk) h7 e0 hl
              have hn : (kvs.map (·.1)).length = l.length := by rw [List.length_map, rkv_len h6]
              generalize hxs : kvs.map (·.1) = xs at k1 hn
              refine ⟨fun i m σ H => ∃ g z, Sim w xr { b with lk := lk' } g z σ H ∧ Le g1 g ∧ i ≤ xs.length ∧ m = xs.length - i ∧ PostS w xr W { b with lk := lk' } g _ (forL t (execB cf ia) [(j, .lkd kvs)] (xs.drop i) z), ⟨xs.length, g1, z1, S1, .refl _, Nat.zero_le _, rfl, k1⟩, fun i m σ H hM => ?_⟩
              obtain ⟨g, z, S, le, hi2, rfl, kp⟩ := hM
              by_cases hlt : i < xs.length
              · right
                rw [List.drop_eq_getElem_cons hlt] at kp
                simp only [forL] at kp
                split at kp
                · rename_i hst
                  obtain ⟨hf, hr⟩ := frz S (le.al.get h7) (hst (j, .lkd kvs) (by simp))
                  refine ⟨⟨hf, by omega⟩, fun σ H => ∃ g z, Sim w xr { b with lk := lk' } g z σ H ∧ Le g1 g ∧ PostS w xr W { b with lk := lk' } g _ (forL t (execB cf ia) [(j, .lkd kvs)] (xs.drop (i + 1)) z), fun σ' H' ⟨g, z, a1, a2, a3⟩ => ⟨xs.length - (i + 1), by omega, g, z, a1, a2, by omega, rfl, a3⟩, fun x H' hy => ?_⟩
                  obtain ⟨rfl, kk', vv, e1, rfl⟩ := hy
                  obtain ⟨o1, o2⟩ := rkv_get hr e1
                  rw [hxs, List.getElem?_eq_getElem hlt] at o2
                  split at kp
                  · rename_i env' henv
                    refine qg _ g z σ _ xs[i] _ env' _ S (by rw [Option.some.inj o2]; exact kV_rp o1) henv fun σ2 S2 => ?_
                    refine qa _ g ⟨env', z.os⟩ σ2 _ _ S2 ?_
                    cases r2 : execB cf ia ⟨env', z.os⟩ with
                    | stuck => rw [r2] at kp; exact kp
                    | exc c x z' => rw [r2] at kp; exact kp
                    | ok f z2 =>
                      rw [r2] at kp
                      cases f with
                      | next => exact fun g2 σ2 H2 l2 S2 => ⟨g2, z2, S2, le.trans l2, PostS.step l2 kp⟩
                      | cont => exact fun g2 σ2 H2 l2 S2 => ⟨g2, z2, S2, le.trans l2, PostS.step l2 kp⟩
                      | ret d fr => exact kp
                  · exact kp.elim
                · exact kp.elim
              · left
                have ei : i = xs.length := by omega
                subst ei
                rw [List.drop_length] at kp
                simp only [forL] at kp
                split at kp
                · rename_i hst
                  obtain ⟨hf, hr⟩ := frz S (le.al.get h7) (hst (j, .lkd kvs) (by simp))
                  exact ⟨⟨hf, by omega⟩, kp g σ H (.refl _) S⟩
                · exact kp.elim
            · exact (Rkt_keys h6 hk).elim
          · exact kk.elim
        · exact kk.elim
      · exact kk.elim
    · exact kk.elim
  · exact kk.elim

/-! ### o.append(e), o a box -/
theorem lisB_at (S : Sim w xr b g z σ H) {x : D} {v : V} {ds : List D} (r : Rb w g H x v) (h : lisB z x = some ds) : ∃ a xs, v = .ref a ∧ H a = some (.lst xs) ∧ Rps g.F g.al ds xs ∧ ∀ ds' xs', Rps g.F g.al ds' xs' → Sim w xr b g (putB z x ds') σ (upd H a (.lst xs')) := by
  unfold lisB at h
  split at h
  · rename_i n
    split at h
    · rename_i ds0 hn
      cases h
      have r' : Rp g.F g.al (.box n) v := r
      simp only [Rp] at r'
      obtain ⟨a, h1, rfl⟩ := r'
      obtain ⟨a2, h2, xs, h3, h4⟩ := S.boxAt hn
      rw [h1] at h2; cases h2
      exact ⟨a, xs, rfl, h3, h4, fun ds' xs' q => S.updBox h1 ⟨xs', upd_same, q⟩⟩
    · cases h
  · cases h
theorem s_mutE {cf : CF} {o : Expr} {m : Str} {io : E} {e : Expr} {es : List Expr} {is : List E} {apos cpos pos' : Pos} {id : String} {r : V → List V → Hp → VK → Prop} (L : LMut X m id r) (hb : baseOk o = true)
    (hs0 : Expr.star e = false) (hs2 : es.all (fun e => !Expr.star e) = true) (hn : (e :: es).length < 30) (hline : (apos.endLine == cpos.line) = true)
    (hsw : swapsWith (.Call (.Attribute o m apos) (e :: es) [] cpos) none pos'.line X.env = pure false) (ho : SndB w xr X W o fun z => fst1 (evalE cf io z)) (h : SndAF w xr X W (e :: es) (evalEs cf is)) :
    SndS w xr X W (.Expr (.Call (.Attribute o m apos) (e :: es) [] cpos) pos') (execS cf (.mutE m io is)) := by
  obtain ⟨to, po, qo⟩ := ho
  obtain ⟨t, p, q⟩ := h
  refine ⟨_, ps_expr (pe_bm PySem.F.plainAttrs_list L.slot L.ty L.mt po p (base_ok hb _ _ _) ?_ hline (star_ok hs0 _ _) (star_any _ _ _ hs2)) hsw, fun b g z σ H D S k => qo b g z σ H _ S ?_⟩
  · rw [few_ok (e :: es) (by simp only [List.all_cons, hs0, hs2]; rfl)]
    simp only [Bool.true_and, Bool.and_eq_true]
    exact ⟨rfl, by simpa using hn⟩
  simp only [execS] at k
  simp only [fst1]
  cases r0 : evalE cf io z with
  | stuck => rw [r0] at k; exact k
  | exc c x z' => rw [r0] at k; exact exc_of k
  | ok x z1 =>
    rw [r0] at k
    simp only [R.bind_ok] at k
    intro g1 v H1 st1 S1 rx
    have k1 := PostS.step st1.le k
    split at k1
    · rename_i ds0 hl0
      obtain ⟨a, xs, rfl, h2, h3, _⟩ := lisB_at S1 rx hl0
      refine ⟨.inl ⟨rfl, xs, .inl (.inl h2)⟩, q b g1 z1 σ H1 _ S1 ?_⟩
      cases r1 : evalEs cf is z1 with
      | stuck => rw [r1] at k1; exact k1
      | exc c x z' => rw [r1] at k1; exact exc_of k1
      | ok ys z2 =>
        rw [r1] at k1
        simp only [R.bind_ok] at k1
        intro g2 vs H2 st2 S2 rs
        have k2 := PostS.step st2.le k1
        split at k2
        · rename_i ds hl
          split at k2
          · rename_i ds' hm
            obtain ⟨a', xs1, e1, h5, h6, h7⟩ := lisB_at S2 (rx.mono st2) hl
            cases e1
            exact L.hr w xr b g2 z2 σ H2 a xs1 vs ds ys ds' _ S2 h5 h6 rs hm fun xs' r' => k2 g2 σ _ (.refl _) (h7 ds' xs' r')
          · exact k2.elim
        · exact k2.elim
    · exact k1.elim

theorem s_mutE0 {cf : CF} {o : Expr} {m : Str} {io : E} {apos cpos pos' : Pos} {id : String} {r : V → List V → Hp → VK → Prop} (L : LMut X m id r) (hb : baseOk o = true)
    (hline : (apos.endLine == cpos.line) = true)
    (hsw : swapsWith (.Call (.Attribute o m apos) [] [] cpos) none pos'.line X.env = pure false) (ho : SndB w xr X W o fun z => fst1 (evalE cf io z)) :
    SndS w xr X W (.Expr (.Call (.Attribute o m apos) [] [] cpos) pos') (execS cf (.mutE m io [])) := by
  obtain ⟨to, po, qo⟩ := ho
  refine ⟨_, ps_expr (pe_bm0 PySem.F.plainAttrs_list L.slot L.ty L.mt po (base_ok hb _ _ _) hline) hsw, fun b g z σ H D S k => qo b g z σ H _ S ?_⟩
  simp only [execS, evalEs] at k
  simp only [fst1]
  cases r0 : evalE cf io z with
  | stuck => rw [r0] at k; exact k
  | exc c x z' => rw [r0] at k; exact exc_of k
  | ok x z1 =>
    rw [r0] at k
    simp only [R.bind_ok] at k
    intro g1 v H1 st1 S1 rx
    have k1 := PostS.step st1.le k
    split at k1
    · rename_i ds0 hl0
      obtain ⟨a, xs, rfl, h2, h3, h4⟩ := lisB_at S1 rx hl0
      refine ⟨.inl ⟨rfl, xs, .inl (.inl h2)⟩, ?_⟩
      simp only [hl0] at k1
      split at k1
      · rename_i ds' hm
        exact L.hr w xr b g1 z1 σ H1 a xs [] ds0 [] ds' _ S1 h2 h3 Rps.nil hm fun xs' r' => k1 g1 σ _ (.refl _) (h4 ds' xs' r')
      · exact k1.elim
    · exact k1.elim

/-! ### x.setdefault(k, []).append(e) -/
theorem look_none {k : D} {kvs : List (D × D)} (h : lookD kvs k = none) (d : D) : putD k d kvs = kvs ++ [(k, d)] := by
  unfold lookD at h
  rw [Option.map_eq_none_iff, List.find?_eq_none] at h
  unfold putD
  rw [if_neg]
  intro q
  obtain ⟨p, hp, hq⟩ := List.any_eq_true.mp q
  exact h p hp hq
theorem dicAt_app {x : Nat} {kvs : List (D × D)} {bx : Bx} (h : dicAt z x = some kvs) (ds : List (D × D)) : dicAt { z with os := z.os ++ [bx] } x = some kvs ∧ putDc { z with os := z.os ++ [bx] } x ds = { putDc z x ds with os := (putDc z x ds).os ++ [bx] } := by
  unfold dicAt at h ⊢
  unfold putDc
  split at h
  · rename_i ds0 he
    simp only [he]
    exact ⟨h, trivial⟩
  · rename_i n fr he
    split at h
    · rename_i ds0 hn
      simp only [he]
      have hlt : n < z.os.length := (List.getElem?_eq_some_iff.mp hn).1
      rw [List.getElem?_append_left hlt, hn]
      refine ⟨h, ?_⟩
      rw [List.set_append_left _ _ hlt]
    · cases h
  · cases h
theorem s_sdApp {cf : CF} {n : Nat} {x : Str} {ek e : Expr} {ik ie : E} {xpos lpos ap1 cp1 ap2 cp2 pos' : Pos} (hN : X.N[n]? = some x) (hv : Vis X.env.scope x) (hd : (x == ("__debug__" : Str)) = false) (hcd : (x == ("__classdict__" : Str)) = false)
    (hk0 : Expr.star ek = false) (he0 : Expr.star e = false) (hl1 : (ap1.endLine == cp1.line) = true) (hl2 : (ap2.endLine == cp2.line) = true)
    (hsw : swapsWith (.Call (.Attribute (.Call (.Attribute (.Name x xpos) "setdefault" ap1) [ek, .List [] lpos] [] cp1) "append" ap2) [e] [] cp2) none pos'.line X.env = pure false)
    (hk : SndB w xr X W ek fun z => fst1 (evalE cf ik z)) (he : SndE w xr X W e (evalE cf ie)) :
    SndS w xr X W (.Expr (.Call (.Attribute (.Call (.Attribute (.Name x xpos) "setdefault" ap1) [ek, .List [] lpos] [] cp1) "append" ap2) [e] [] cp2) pos') (execS cf (.sdApp n ik ie)) := by
  obtain ⟨tk, pk, qk⟩ := hk
  obtain ⟨t, p, q⟩ := he.F
  have pl : PE X (.List [] lpos) (tLst tNil) := pe_lst pa_nil
  refine ⟨_, ps_expr (pe_bm PySem.F.plainAttrs_list PySem.F.slot_list_append PySem.F.type_list_append mt_append (pe_dsetd (pe_var hN hv hd hcd) pk pl (m2_of rfl hk0 rfl hl1)) (pa_cons p pa_nil (star_ok he0 _ _)) (base_ok rfl _ _ _) ?_ hl2 (star_ok he0 _ _) rfl) hsw, fun b g z σ H D S k => ?_⟩
  · rw [few_ok [e] (by simp [he0])]
    rfl
  simp only [execS] at k
  split at k
  · rename_i ds0 hl0
    obtain ⟨a, h1, h2⟩ := dicAt_ref S hl0
    refine ⟨.ref a, h1, a, rfl, h2, qk b g z σ H _ S ?_⟩
    simp only [fst1]
    cases r1 : evalE cf ik z with
    | stuck => rw [r1] at k; exact k
    | exc c x z' => rw [r1] at k; exact exc_of k
    | ok j z1 =>
      rw [r1] at k
      simp only [R.bind_ok] at k
      intro g1 jv H1 st1 S1 rj
      have k1 := PostS.step st1.le k
      cases r2 : sdfZ z1 n j.1 with
      | none => rw [r2] at k1; exact k1.elim
      | some bz =>
        obtain ⟨m, z2⟩ := bz
        rw [r2] at k1
        dsimp only at k1
        refine ⟨Nat.zero_le _, fun p' hp' => ?_⟩
        have S3 := S1.alloc (o := .lst []) hp'
        have fin : ∀ g4 z4 H4 c ds1, Sim w xr b g4 z4 σ H4 → g4.al[m]? = some c → z4.os[m]? = some (.lst ds1) → PostS w xr W b g4 D ((evalE cf ie z4).bind fun y z => match lisB z (.box m) with
            | some ds => if ds.length < sizeLine then .ok .next (putB z (.box m) (ds ++ [y.1])) else .stuck
            | none => .stuck) → tyV X.K "list" (.ref c) H4 ∧ tCons t tNil σ H4 fun vs H2 => rAppend (.ref c) vs H2 fun v H' => D.nx σ H' := by
          intro g4 z4 H4 c ds1 S4 hc hm k4
          obtain ⟨c', e', xs, h5, h6⟩ := S4.boxAt hm
          rw [hc] at e'; cases e'
          refine ⟨.inl ⟨rfl, xs, .inl (.inl h5)⟩, q b g4 z4 σ H4 _ S4 ?_⟩
          simp only [fst1]
          cases r3 : evalE cf ie z4 with
          | stuck => rw [r3] at k4; exact k4
          | exc c x z' => rw [r3] at k4; exact exc_of k4
          | ok y z5 =>
            rw [r3] at k4
            simp only [R.bind_ok] at k4
            intro g5 v H5 st5 S5 rv
            have k5 := PostS.step st5.le k4
            split at k5
            · rename_i ds hl
              split at k5
              · rename_i hlt
                have rb : Rb w g5 H5 (.box m) (.ref c) := by
                  show Rp g5.F g5.al (.box m) (.ref c)
                  simp only [Rp]
                  exact ⟨c, st5.al.get hc, rfl⟩
                obtain ⟨a', xs1, e1, h7, h8, h9⟩ := lisB_at S5 rb hl
                cases e1
                exact ⟨c, xs1, v, rfl, rfl, h7, by rw [Rps.length h8]; exact hlt, k5 g5 σ _ (.refl _) (h9 _ _ (Rps.append h8 (Rps.cons rv Rps.nil)))⟩
              · exact k5.elim
            · exact k5.elim
        unfold sdfZ at r2
        split at r2
        · rename_i kvs hdic
          split at r2
          · rename_i hcond
            obtain ⟨hkk, hlt⟩ := hcond
            rw [Bool.and_eq_true] at hkk
            obtain ⟨kk, ek⟩ := keyOk_kD hkk.1
            obtain ⟨rfl, hko⟩ := rb_key rj ek
            obtain ⟨a', l, h4, h5, h6, h7⟩ := dicAt_some S3 hdic hkk.2
            rw [h1] at h4; cases h4
            have lo := lookD_of (k := kk) h6
            rw [ek] at r2
            refine ⟨l, kk, h5, rfl, by rw [rkv_len h6]; exact hlt, fun v hv2 => ?_, fun hv2 => ?_⟩
            · cases e2 : lookD kvs (kD kk) with
              | none => rw [e2] at lo; rw [lo] at hv2; cases hv2
              | some d' =>
                rw [e2] at lo r2
                obtain ⟨v', e5, e4⟩ := lo
                rw [e5] at hv2; cases hv2
                cases d' with
                | box j0 =>
                  dsimp only at r2
                  split at r2
                  · rename_i ds1 hj0
                    cases r2
                    simp only [Rp] at e4
                    obtain ⟨c, hc, rfl⟩ := e4
                    exact fin g1 z1 _ c ds1 S3 hc hj0 k1
                  · cases r2
                | _ => cases r2
            · cases e2 : lookD kvs (kD kk) with
              | some d' =>
                rw [e2] at lo
                obtain ⟨v', e5, e4⟩ := lo
                rw [e5] at hv2; cases hv2
              | none =>
                rw [e2] at r2
                cases r2
                have nF := S1.freshF hp'
                have own : Own w b g1 (upd H1 p' (.lst [])) (.lst []) p' := ⟨nF, S1.freshB hp', S1.freshH hp', S1.freshR hp', ⟨[], upd_same, Rps.nil⟩⟩
                have off : Off z1 σ p' := fun i e he ho qq => by
                  cases e with
                  | no => cases ho
                  | ex c x => cases ho
                  | bor d => cases ho
                  | val d' fr =>
                    obtain ⟨a', q1, q2, q3⟩ := S1.ownAt he ho
                    rw [q2] at qq; cases qq
                    obtain ⟨u, hu⟩ := q3.cl.there
                    rw [hp'] at hu; cases hu
                have S4 := S3.boxed own off (bx := .lst []) ⟨[], upd_same, Rps.nil⟩
                have hlen := Paired.len S1.box
                obtain ⟨d1, d2⟩ := dicAt_app (bx := .lst []) hdic (kvs ++ [(kD kk, .box z1.os.length)])
                obtain ⟨a2, l2, f1, f2, f3, f4⟩ := dicAt_some S4 d1 hkk.2
                rw [h1] at f1; cases f1
                rw [h5] at f2; cases f2
                have hal : (g1.al ++ [p'])[z1.os.length]? = some p' := by
                  rw [List.getElem?_append_right (by omega), hlen]; simp
                have rbox : Rp g1.F (g1.al ++ [p']) (.box z1.os.length) (.ref p') := by
                  simp only [Rp]; exact ⟨p', hal, rfl⟩
                have S5 := f4 _ _ (putD_kv hko rbox f3)
                rw [look_none e2, d2] at S5
                refine fin ⟨g1.F, g1.al ++ [p']⟩ _ _ p' [] S5 hal ?_ (PostS.step (g := g1) ⟨Sub.refl g1.F, ⟨[p'], rfl⟩⟩ k1)
                have : (putDc z1 n (kvs ++ [(kD kk, .box z1.os.length)])).os.length = z1.os.length := by
                  unfold putDc
                  split <;> simp
                show ((putDc z1 n (kvs ++ [(kD kk, .box z1.os.length)])).os ++ [Bx.lst []])[z1.os.length]? = _
                rw [List.getElem?_append_right (by omega), this]
                simp
          · cases r2
        · cases r2
  · exact k.elim
end
end Vi

namespace Vi
open PySem L2

section
variable {w : Wd} {xr : Nat → Option Addr → V → Prop} {X : Cx} {W : WX} {b : Bs} {g g1 g2 : Gh} {z z1 z2 : Z} {σ : St} {H H1 H2 : Hp}

/-- what of the classes is known -/
structure ClsOk (K : PySem.W.Frag) (cad : Nat → Addr) (fok : Nat → Str → Bool) : Prop where
  na : ∀ c f, fok c f = true → Cls K (cad c) ∧ NoAttr K (cad c) f

/-! ### o.f -/
theorem box_ref {i : Nat} {v : V} (h : Rb w g H (.box i) v) : ∃ a, g.al[i]? = some a ∧ v = .ref a := by
  have h' : Rp g.F g.al (.box i) v := h
  simpa only [Rp] using h'
theorem s_fld {cf : CF} {e : Expr} {ie : E} {f : Str} {pos : Pos} (K : ClsOk X.K w.cad cf.fok) (hb : baseOk e = true) (he : SndB w xr X W e fun z => fst1 (evalE cf ie z)) :
    SndE w xr X W (.Attribute e f pos) (evalE cf (.fld ie f)) := by
  obtain ⟨t, p, q⟩ := he
  refine ⟨_, pe_fld p (base_ok hb _ _ _), fun b g z σ H Q S k => q b g z σ H _ S ?_⟩
  simp only [evalE] at k
  simp only [fst1]
  cases r : evalE cf ie z with
  | stuck => rw [r] at k; exact k
  | exc c x z' => rw [r] at k; exact k
  | ok x z1 =>
    rw [r] at k
    simp only [R.bind_ok] at k
    intro g1 v H1 st1 S1 rx
    have k1 := PostE.step S1 st1 k
    unfold fldZ at k1
    split at k1
    · rename_i i hx
      rw [hx] at rx
      obtain ⟨a, ha, rfl⟩ := box_ref rx
      split at k1
      · rename_i c fs hi
        split at k1
        · rename_i hf
          obtain ⟨a', ha', dx, fv, h1, h2⟩ := S1.boxAt hi
          rw [ha] at ha'; cases ha'
          cases hl : fs.lookup f with
          | none => rw [hl] at k1; exact k1.elim
          | some d =>
            rw [hl] at k1
            obtain ⟨v, h3, h4⟩ := Rfs.look h2 hl
            exact ⟨a, _, dx, fv, v, rfl, h1, (K.na c f hf).1, (K.na c f hf).2, h3, PostE.now S1 h4 k1⟩
        · exact k1.elim
      · exact k1.elim
    · exact k1.elim

/-! ### o.f = e -/
theorem Rfs.put {F : Hp} {al : List Addr} {f : Str} {d : D} {v : V} (h : Rp F al d v) : ∀ {fs : List (Str × D)} {fv : List (Str × V)}, Rfs F al fs fv → Rfs F al (putFs f d fs) (putF f v fv)
  | _, _, .nil => .cons ⟨rfl, h⟩ .nil
  | (n, d0) :: fs, (m, v0) :: fv, .cons a t => by
    obtain ⟨h1, h2⟩ := a
    simp only at h1
    subst h1
    unfold putFs putF
    by_cases e : n = f
    · rw [if_pos e, if_pos e]
      exact .cons ⟨rfl, h⟩ t
    · rw [if_neg e, if_neg e]
      exact .cons ⟨rfl, h2⟩ (Rfs.put h t)
theorem Rfs.none {F : Hp} {al : List Addr} {f : Str} : ∀ {fs : List (Str × D)} {fv : List (Str × V)}, Rfs F al fs fv → fs.lookup f = none → fv.lookup f = none
  | _, _, .nil, _ => rfl
  | (n, d0) :: fs, (m, v0) :: fv, .cons a t, h => by
    obtain ⟨h1, h2⟩ := a
    simp only at h1
    subst h1
    rw [List.lookup_cons] at h ⊢
    split
    · rename_i e; rw [e] at h; cases h
    · rename_i e; rw [e] at h; exact Rfs.none t h
theorem s_setF {cf : CF} {o e : Expr} {io ie : E} {f : Str} {pos' pos : Pos} (K : ClsOk X.K w.cad cf.fok) (hs : swapsWith e (some (.Attribute o f pos')) pos.line X.env = pure false)
    (he : SndE w xr X W e (evalE cf ie)) (ho : SndB w xr X W o fun z => fst1 (evalE cf io z)) : SndS w xr X W (.Assign [.Attribute o f pos'] e pos) (execS cf (.setF io f ie)) := by
  obtain ⟨t, p, q⟩ := he.F
  obtain ⟨to, po, qo⟩ := ho
  refine ⟨_, ps_fld po p hs, fun b g z σ H D S k => q b g z σ H _ S ?_⟩
  simp only [execS] at k
  simp only [fst1]
  cases r : evalE cf ie z with
  | stuck => rw [r] at k; exact k
  | exc c x z' => rw [r] at k; exact exc_of k
  | ok d z1 =>
    rw [r] at k
    simp only [R.bind_ok] at k
    intro g1 v H1 st1 S1 rv
    have k1 := PostS.step st1.le k
    refine qo b g1 z1 σ H1 _ S1 ?_
    simp only [fst1]
    cases r2 : evalE cf io z1 with
    | stuck => rw [r2] at k1; exact k1
    | exc c x z' => rw [r2] at k1; exact exc_of k1
    | ok x z2 =>
      rw [r2] at k1
      simp only [R.bind_ok] at k1
      intro g2 u H2 st2 S2 rx
      have k2 := PostS.step st2.le k1
      unfold stF at k2
      split at k2
      · rename_i i hx
        rw [hx] at rx
        obtain ⟨a, ha, rfl⟩ := box_ref rx
        split at k2
        · rename_i c fs hi
          split at k2
          · rename_i hf
            obtain ⟨a', ha', dx, fv, h1, h2⟩ := S2.boxAt hi
            rw [ha] at ha'; cases ha'
            refine ⟨a, _, dx, fv, rfl, h1, (K.na c f hf.1).1, (K.na c f hf.1).2, by rw [← Paired.len h2]; exact hf.2, k2 g2 σ _ (.refl _) (S2.updBox ha ⟨dx, _, upd_same, Rfs.put (Rp.mono st2.F st2.al _ _ rv) h2⟩)⟩
          · exact k2.elim
        · exact k2.elim
      · exact k2.elim

/-! ### C(..) -/
def tMkO (C : Addr) (sp : Sp) (E : St → XK) (t : TA) : TE := fun σ H Q => t σ H fun vs H1 => ∀ x dx, H1 x = none → H1 dx = none → dx ≠ x →
  sp (V.ref x :: vs) (upd (upd H1 dx (.own x)) x (.ins C dx [])) (fun v H2 => v = .non ∧ Q (V.ref x) H2) (E σ)
theorem run_mkO {CX : CXT} {k : Nat} {C f : Addr} {fd : FuncData} {ps : List Str} {sp : Sp} {E : St → XK} {pins : List (Addr × Obj)} {s : Shared} {Q : VK} {us : List Value} {vs : List V} (M : Mk X.K C f) (F : FnOk X.prog X.w X.K X.mg X.base CX k f fd ps sp) (hr : Room (k + 1) X.A ∨ ∀ vs H Q E, ¬ sp vs H Q E) (hb : Binds X.K fd ps [])
    (hx : PassesAt CX X σ (E σ)) (I : Inv X pins σ H s) (r : Vals vs us)
    (h : ∀ x dx, H x = none → H dx = none → dx ≠ x → sp (V.ref x :: vs) (upd (upd H dx (.own x)) x (.ins C dx [])) (fun v H2 => v = .non ∧ Q (V.ref x) H2) (E σ)) :
    wpAny (model X.prog X.w) X.A (PySem.call (.ref C) us) (EP X pins σ Q) X.xe s := by
  have fr1 : H (s.heap.objs.size + 1) = none := I.hok.fresh (Nat.le_succ _)
  have fr0 : H s.heap.objs.size = none := I.hok.fresh (Nat.le_refl _)
  have want := h _ _ fr1 fr0 (Nat.ne_of_lt (Nat.lt_succ_self _))
  rcases hr with hr | hr
  rotate_left
  · exact (hr _ _ _ _ want).elim
  have I' := Inv.made (C := C) I
  have rr : Vals (V.ref (s.heap.objs.size + 1) :: vs) (Value.ref (s.heap.objs.size + 1) :: us) := .cons rfl r
  have len : (Value.ref (s.heap.objs.size + 1) :: us).length = ps.length := by
    rw [← rr.length]; exact F.len _ _ _ _ want
  have bd := hb _ (Value.ref (s.heap.objs.size + 1) :: us) I'.kIn (by rw [List.append_nil]; exact len)
  rw [List.append_nil] at bd
  refine wpAny_call (make_map (f := f) I.kIn M.makes M.init (beq_iff_eq.mp M.fn) (codeAny_mono (F.run _ X.stack _ _ ⟨Value.ref (s.heap.objs.size + 1) :: us, []⟩ (Value.ref (s.heap.objs.size + 1) :: us) _ _ (E σ) (hr.make C us []) (I'.env0.make C us []) bd rr want) fun res s' hq => ?_))
  cases res with
  | error e => exact hx pins _ _ e s' I' hq
  | ok fl =>
    cases fl with
    | ret u =>
      obtain ⟨v, H', I3, rv, ev, q3⟩ := I'.after hq
      cases ev
      exact ⟨rv, ⟨V.ref (s.heap.objs.size + 1), H', I3, rfl, q3⟩⟩
    | next => exact hq.elim
    | brk => exact hq.elim
    | cont => exact hq.elim
theorem pe_mkO {CX : CXT} {k : Nat} {C f : Addr} {fd : FuncData} {ps : List Str} {sp : Sp} {E : St → XK} {x : Str} {e : Expr} {es : List Expr} {t : TA} {p pos : Pos} (M : Mk X.K C f) (F : FnOk X.prog X.w X.K X.mg X.base CX k f fd ps sp) (hr : Room (k + 1) X.A ∨ ∀ vs H Q E, ¬ sp vs H Q E) (hg : Gl X x) (hm : X.mg x = some (.ref C)) (hb : Binds X.K fd ps [])
    (hx : ∀ σ, PassesAt CX X σ (E σ)) (ha : PA X (e :: es) t) (hdb : (x == ("__debug__" : Str)) = false) (he : starEach (e :: es) X.env = (false, eval e X.env) :: starEach es X.env) (hpl : (backTo pos (starEach es X.env)).any (·.1) = false) :
    PE X (.Call (.Name x p) (e :: es) [] pos) (tMkO C sp E t) := ⟨fun pins s σ H Q I h => wpAny_Call_Name_kw (ld_glob I hg hm (PySem.W.callWith_K (h₀ := X.base) I.ok.mod.kin M.kp (thn (ha.run pos pins s σ H _ I h) fun us s1 ⟨vs, H1, I1, r, q⟩ => ⟨I1.kIn, run_mkO M F hr hb (hx σ) I1 r q⟩) he hpl) hdb)⟩
theorem pe_mkO0 {CX : CXT} {k : Nat} {C f : Addr} {fd : FuncData} {ps : List Str} {sp : Sp} {E : St → XK} {x : Str} {p pos : Pos} (M : Mk X.K C f) (F : FnOk X.prog X.w X.K X.mg X.base CX k f fd ps sp) (hr : Room (k + 1) X.A ∨ ∀ vs H Q E, ¬ sp vs H Q E) (hg : Gl X x) (hm : X.mg x = some (.ref C)) (hb : Binds X.K fd ps [])
    (hx : ∀ σ, PassesAt CX X σ (E σ)) (hdb : (x == ("__debug__" : Str)) = false) :
    PE X (.Call (.Name x p) [] [] pos) (tMkO C sp E tNil) := ⟨fun pins s σ H Q I h => wpAny_Call_Name_kw (ld_glob I hg hm (PySem.W.callWith_K0 I.kIn M.kp (run_mkO (us := []) M F hr hb (hx σ) I .nil h)) hdb)⟩
/-- a box that is new to all -/
theorem Sim.newBox (S : Sim w xr b g z σ H) {p : Addr} {bx : Bx} (nF : g.F p = none) (nB : p ∉ g.al) (nH : b.H p = none) (nR : p ∉ b.rs) (off : Off z σ p) (hb : BxRel w.cad b.lk g.F g.al H bx p) :
    Sim w xr b ⟨g.F, g.al ++ [p]⟩ { z with os := z.os ++ [bx] } σ H := by
  have pr : Pre g.al (g.al ++ [p]) := ⟨[p], rfl⟩
  refine ⟨S.sub, S.new, S.kept, S.pF, S.pre.trans pr, fun a ha => ?_, fun a ha => ?_, ?_, ?_, S.len, S.ln, fun i e he => ?_, S.dis, fun a ha => ?_⟩
  · rcases List.mem_append.mp ha with h | h
    · exact S.alnew a h
    · rw [List.mem_singleton.mp h]; exact .inr nH
  · rcases List.mem_append.mp ha with h | h
    · exact S.alF a h
    · rw [List.mem_singleton.mp h]; exact nF
  · refine List.nodup_append.mpr ⟨S.nd, by simp, fun a ha c hc => ?_⟩
    rw [List.mem_singleton.mp hc]
    exact fun q => nB (q ▸ ha)
  · exact Paired.app (Paired.imp (fun x a q => q.mono (.refl _) pr fun _ q => q) S.box) (.cons (hb.mono (.refl _) pr fun _ q => q) .nil)
  · have q := S.ent i e he
    cases e with
    | no => trivial
    | ex c x => exact q
    | bor d => exact q
    | val d' fr =>
      obtain ⟨v, e1, e2⟩ := q
      refine ⟨v, e1, ?_⟩
      unfold ValRel at e2 ⊢
      split
      · rename_i hc
        rw [if_pos hc] at e2
        obtain ⟨a, rfl, o⟩ := e2
        have hne : a ≠ p := fun q => off i _ he hc (by unfold sad; rw [e1, q])
        refine ⟨a, rfl, ⟨o.nF, fun q => ?_, o.nH, o.nR, o.cl.mono (.refl _) pr fun _ q => q⟩⟩
        rcases List.mem_append.mp q with h | h
        · exact o.nB h
        · exact hne (List.mem_singleton.mp h)
      · rename_i hc
        rw [if_neg hc] at e2
        exact Rp.mono (.refl _) pr _ _ e2
  · obtain ⟨h1, h2, h3⟩ := S.rs a ha
    refine ⟨h1, fun q => ?_, h3⟩
    rcases List.mem_append.mp q with h | h
    · exact h2 h
    · exact nR (by rw [← List.mem_singleton.mp h]; exact ha)
theorem Sim.offF (S : Sim w xr b g z σ H) {p : Addr} (h : H p = none) : Off z σ p := fun i e he ho q => by
  cases e with
  | no => cases ho
  | ex c x => cases ho
  | bor d => cases ho
  | val d' fr =>
    obtain ⟨a, h1, h2, h3⟩ := S.ownAt he ho
    rw [h2] at q; cases q
    obtain ⟨u, hu⟩ := h3.cl.there
    rw [h] at hu; cases hu
theorem mk_hr {cf : CF} {c f : Nat} {bs : List Bool} {ds : List D} {vs : List V} {Q : VK} {x dx : Addr} (S : Sim w xr b g z σ H) (hx : H x = none) (hdx : H dx = none) (ne : dx ≠ x) (r : Rms g H bs ds vs) (hn : ds.length = bs.length) (k : PostE w xr W b g σ H Q (mkZ cf c f ds z)) :
    spR w.cad (false :: bs) (cf.init f) (.ref x :: vs) (upd (upd H dx (.own x)) x (.ins (w.cad c) dx [])) (fun v H2 => v = .non ∧ Q (V.ref x) H2) (WE W σ) := by
  have hx' : upd H dx (.own x) x = none := by rw [upd_ne (Ne.symm ne)]; exact hx
  have S1 := S.alloc (o := .own x) hdx
  have S2 := S1.alloc (o := .ins (w.cad c) dx []) hx'
  have S3 := S2.newBox (bx := .ins c []) (S1.freshF hx') (S1.freshB hx') (S1.freshH hx') (S1.freshR hx') (S1.offF hx') ⟨dx, [], upd_same, .nil⟩
  have st0 : Stp g H g (upd H dx (.own x)) := Stp.alloc hdx
  have st1 : Stp g (upd H dx (.own x)) g (upd (upd H dx (.own x)) x (.ins (w.cad c) dx [])) := Stp.alloc hx'
  have st2 : Stp g H ⟨g.F, g.al ++ [x]⟩ (upd (upd H dx (.own x)) x (.ins (w.cad c) dx [])) := by
    have st := st0.trans st1
    refine ⟨st.F, ⟨[x], rfl⟩, fun a ha => ?_, st.keep⟩
    rcases List.mem_append.mp ha with h | h
    · exact .inl h
    · rw [List.mem_singleton.mp h]; exact .inr hx
  have hlen := Paired.len S.box
  have hal : (g.al ++ [x])[z.os.length]? = some x := by
    rw [List.getElem?_append_right (by omega), hlen]; simp
  refine call_hr (g := ⟨g.F, g.al ++ [x]⟩) (ds := .box z.os.length :: ds) S3 ⟨.ref x, vs, rfl, ?_, r.mono st2⟩ (by simp [hn]) ?_
  · unfold Rm
    rw [if_neg (by simp)]
    simp only [Rp]
    exact ⟨x, hal, rfl⟩
  · unfold mkZ at k
    unfold outZ
    dsimp only
    cases e : cf.init f (.box z.os.length :: ds) (z.os ++ [.ins c []]) with
    | stuck => rw [e] at k; exact k
    | exc c x os => rw [e] at k; exact fun g' cls dd H' s' S' t => k g' cls dd H' (st2.trans s') S' t
    | ok a os =>
      rw [e] at k
      obtain ⟨d, fr⟩ := a
      cases d with
      | non =>
        intro g' v H' st' S' tm
        have hv : v = .non := by
          unfold Tmp at tm
          rw [if_neg (by simp [D.cell])] at tm
          simpa only [Rp] using tm
        refine ⟨hv, k g' (.ref x) H' (st2.trans st') S' (Tmp.frozen ?_)⟩
        simp only [Rp]
        exact ⟨x, st'.al.get hal, rfl⟩
      | _ => exact k.elim
theorem mk_main {cf : CF} {c f : Nat} {bs : List Bool} {is : List E} {t : TA} (hl : is.length = bs.length) (qa : ∀ b g z σ H Q, Sim w xr b g z σ H → PostAM w xr W b g σ H bs Q (evalEs cf is z) → t σ H Q) :
    ∀ b g z σ H Q, Sim w xr b g z σ H → PostE w xr W b g σ H Q (evalE cf (.mk c f is) z) → tMkO (w.cad c) (spR w.cad (false :: bs) (cf.init f)) (WE W) t σ H Q := by
  intro b g z σ H Q S k
  refine qa b g z σ H _ S ?_
  simp only [evalE] at k
  cases r : evalEs cf is z with
  | stuck => rw [r] at k; exact k
  | exc c x z' => rw [r] at k; exact k
  | ok ds z1 =>
    rw [r] at k
    simp only [R.bind_ok] at k
    intro g1 vs H1 st1 S1 rs x dx hx hdx ne
    exact mk_hr S1 hx hdx ne rs (by rw [evalEs_length _ _ _ _ r, hl]) (PostE.step S1 st1 k)
theorem am_nil_run {cf : CF} {bs : List Bool} : ∀ b g z σ H Q, Sim w xr b g z σ H → PostAM w xr W b g σ H bs Q (evalEs cf [] z) → tNil σ H Q := fun b g z σ H Q S k => k g [] H (.refl _ _) S rfl
theorem s_mk {cf : CF} {c f lv : Nat} {bs : List Bool} {x : Str} {fa : Addr} {fd : FuncData} {ps : List Str} {e : Expr} {es : List Expr} {is : List E} {p pos : Pos} (tk : Takes X W) (M : Mk X.K (w.cad c) fa) (F : FnOk X.prog X.w X.K X.mg X.base (L2.CX X.prog X.w) lv fa fd ps (spR w.cad (false :: bs) (cf.init f))) (hr : Room (lv + 1) X.A ∨ ∀ vs H Q E, ¬ spR w.cad (false :: bs) (cf.init f) vs H Q E)
    (hg : Gl X x) (hm : X.mg x = some (.ref (w.cad c))) (hb : Binds X.K fd ps []) (hdb : (x == ("__debug__" : Str)) = false) (hs : Expr.star e = false) (hs2 : es.all (fun e => !Expr.star e) = true) (hl : is.length = bs.length) (ha : SndAM w xr X W (e :: es) bs (evalEs cf is)) :
    SndE w xr X W (.Call (.Name x p) (e :: es) [] pos) (evalE cf (.mk c f is)) := by
  obtain ⟨t, pa, qa⟩ := ha
  exact ⟨_, pe_mkO M F hr hg hm hb (fun σ => passAt tk σ) pa hdb (star_ok hs _ _) (star_any _ _ _ hs2), mk_main hl qa⟩
theorem s_mk0 {cf : CF} {c f lv : Nat} {x : Str} {fa : Addr} {fd : FuncData} {ps : List Str} {p pos : Pos} (tk : Takes X W) (M : Mk X.K (w.cad c) fa) (F : FnOk X.prog X.w X.K X.mg X.base (L2.CX X.prog X.w) lv fa fd ps (spR w.cad [false] (cf.init f))) (hr : Room (lv + 1) X.A ∨ ∀ vs H Q E, ¬ spR w.cad [false] (cf.init f) vs H Q E)
    (hg : Gl X x) (hm : X.mg x = some (.ref (w.cad c))) (hb : Binds X.K fd ps []) (hdb : (x == ("__debug__" : Str)) = false) : SndE w xr X W (.Call (.Name x p) [] [] pos) (evalE cf (.mk c f [])) :=
  ⟨_, pe_mkO0 M F hr hg hm hb (fun σ => passAt tk σ) hdb, mk_main rfl am_nil_run⟩

/-! ### o.m(..) -/
def tOm (C : Addr) (m : Str) (sp : Sp) (E : St → XK) (ta : TE) (t : TA) : TE := fun σ H Q => ta σ H fun x H1 => ∃ a dx fs, x = .ref a ∧ H1 a = some (.ins C dx fs) ∧ fs.lookup m = none ∧ t σ H1 fun vs H2 => sp (x :: vs) H2 Q (E σ)
theorem meth_go {o : Expr} {m : Str} {apos pos : Pos} {es : List Expr} {s : Shared} {Q : Value → Shared → Prop} (hb : baseOk o = true) (hs : es.all (fun e => !Expr.star e) = true) (hn : es.length < 30) (hline : (apos.endLine == pos.line) = true)
    (h : wpAny (model X.prog X.w) X.A (eval o X.env) (fun ov s1 => wpAny (model X.prog X.w) X.A (getMethod ov m (do return (← importBound o X.env).getD true)) (fun fx s2 => wpAny (model X.prog X.w) X.A (callWith pos fx.1 fx.2 (backTo pos (starEach es X.env)) (backToKw pos (keywordEach [] X.env))) Q X.xe s2) X.xe s1) X.xe s) :
    wpAny (model X.prog X.w) X.A (eval (.Call (.Attribute o m apos) es [] pos) X.env) Q X.xe s := by
  rw [arm_eval_Call, base_ok hb]
  refine wpAny_bind (thn h fun ov s1 h1 => wpAny_bind (wpAny_standAt ?_))
  have few : methodCallForm (es.length + ([] : List Keyword).length) (backTo pos (starEach es X.env)) (backToKw pos (keywordEach [] X.env)) = true := by
    unfold methodCallForm
    rw [few_ok es hs]
    show (true && decide (es.length + 0 + 0 < 30)) = true
    simpa using hn
  unfold methodCall calleeOf methodCallPos
  rw [few]
  simp only [if_true, hline, Bool.not_true, Bool.or_true]
  exact wpAny_bind (wpAny_holding (thn h1 fun fx s2 h2 => wpAny_bind (wpAny_pure h2)))
theorem om_main {cf : CF} {c f : Nat} {m : Str} {bs : List Bool} {io : E} {is : List E} {to : TE} {t : TA} (hl : is.length = bs.length) (qo : ∀ b g z σ H Q, Sim w xr b g z σ H → PostB w xr W b g σ H Q ((fun z => fst1 (evalE cf io z)) z) → to σ H Q) (qa : ∀ b g z σ H Q, Sim w xr b g z σ H → PostAM w xr W b g σ H bs Q (evalEs cf is z) → t σ H Q) :
    ∀ b g z σ H Q, Sim w xr b g z σ H → PostE w xr W b g σ H Q (evalE cf (.om c m f io is) z) → tOm (w.cad c) m (spR w.cad (false :: bs) (cf.call f)) (WE W) to t σ H Q := by
  intro b g z σ H Q S k
  refine qo b g z σ H _ S ?_
  simp only [evalE] at k
  simp only [fst1]
  cases r : evalE cf io z with
  | stuck => rw [r] at k; exact k
  | exc c x z' => rw [r] at k; exact k
  | ok x z1 =>
    rw [r] at k
    simp only [R.bind_ok] at k
    intro g1 v H1 st1 S1 rx
    have k1 := PostE.step S1 st1 k
    split at k1
    · rename_i hrec
      unfold recZ at hrec
      split at hrec
      · rename_i i hx
        rw [hx] at rx k1
        obtain ⟨a, ha, rfl⟩ := box_ref rx
        split at hrec
        · rename_i c' fs hi
          rw [Bool.and_eq_true, decide_eq_true_eq] at hrec
          obtain ⟨rfl, hnone⟩ := hrec
          obtain ⟨a', ha', dx, fv, h1, h2⟩ := S1.boxAt hi
          rw [ha] at ha'; cases ha'
          refine ⟨a, dx, fv, rfl, h1, Rfs.none h2 (by simpa using hnone), qa b g1 z1 σ H1 _ S1 ?_⟩
          cases r2 : evalEs cf is z1 with
          | stuck => rw [r2] at k1; exact k1
          | exc c x z' => rw [r2] at k1; exact k1
          | ok ds z2 =>
            rw [r2] at k1
            simp only [R.bind_ok] at k1
            intro g2 vs H2 st2 S2 rs
            refine call_hr (ds := .box i :: ds) S2 ⟨.ref a, vs, rfl, ?_, rs⟩ (by simp [evalEs_length _ _ _ _ r2, hl]) (PostE.step S2 st2 k1)
            unfold Rm
            rw [if_neg (by simp)]
            simp only [Rp]
            exact ⟨a, st2.al.get ha, rfl⟩
        · cases hrec
      · cases hrec
    · exact k1.elim
theorem s_om {cf : CF} {c f lv : Nat} {bs : List Bool} {m : Str} {o : Expr} {io : E} {fa : Addr} {fd : FuncData} {ps : List Str} {e : Expr} {es : List Expr} {is : List E} {apos pos : Pos} (tk : Takes X W) (K : Cls X.K (w.cad c)) (hm : Meth X.K (w.cad c) m fa) (F : FnOk X.prog X.w X.K X.mg X.base (L2.CX X.prog X.w) lv fa fd ps (spR w.cad (false :: bs) (cf.call f))) (hr : Room lv X.A)
    (hb : Binds X.K fd ps []) (hbo : baseOk o = true) (hs : Expr.star e = false) (hs2 : es.all (fun e => !Expr.star e) = true) (hn : (e :: es).length < 30) (hline : (apos.endLine == pos.line) = true) (hl : is.length = bs.length) (ho : SndB w xr X W o fun z => fst1 (evalE cf io z)) (ha : SndAM w xr X W (e :: es) bs (evalEs cf is)) :
    SndE w xr X W (.Call (.Attribute o m apos) (e :: es) [] pos) (evalE cf (.om c m f io is)) := by
  obtain ⟨to, po, qo⟩ := ho
  obtain ⟨t, pa, qa⟩ := ha
  refine ⟨tOm (w.cad c) m (spR w.cad (false :: bs) (cf.call f)) (WE W) to t, ⟨fun pins s σ H Q I h => ?_⟩, om_main hl qo qa⟩
  refine meth_go hbo (by simp only [List.all_cons, hs, hs2]; rfl) hn hline (thn (po.run pins s σ H _ I h) fun u s1 ⟨x, H1, I1, rx, a, dx, fs, ex, ea, l, q⟩ => ?_)
  subst ex
  obtain rfl : u = Value.ref a := rx
  refine getmeth_ok I1 ea K hm l ?_
  refine PySem.W.callWith_K (first := [.ref a]) (h₀ := X.base) I.ok.mod.kin hm.kp (thn (pa.run pos pins s1 σ H1 _ I1 q) fun us s2 ⟨vs, H2, I2, r, q2⟩ => ⟨I2.kIn, ?_⟩) (star_ok hs _ _) (star_any _ _ _ hs2)
  exact run_fnS (us := .ref a :: us) (vs := .ref a :: vs) F hr hb (passAt tk σ) I2 (.cons rfl r) q2
theorem s_om0 {cf : CF} {c f lv : Nat} {m : Str} {o : Expr} {io : E} {fa : Addr} {fd : FuncData} {ps : List Str} {apos pos : Pos} (tk : Takes X W) (K : Cls X.K (w.cad c)) (hm : Meth X.K (w.cad c) m fa) (F : FnOk X.prog X.w X.K X.mg X.base (L2.CX X.prog X.w) lv fa fd ps (spR w.cad [false] (cf.call f))) (hr : Room lv X.A)
    (hb : Binds X.K fd ps []) (hbo : baseOk o = true) (hline : (apos.endLine == pos.line) = true) (ho : SndB w xr X W o fun z => fst1 (evalE cf io z)) :
    SndE w xr X W (.Call (.Attribute o m apos) [] [] pos) (evalE cf (.om c m f io [])) := by
  obtain ⟨to, po, qo⟩ := ho
  refine ⟨tOm (w.cad c) m (spR w.cad [false] (cf.call f)) (WE W) to tNil, ⟨fun pins s σ H Q I h => ?_⟩, om_main rfl qo am_nil_run⟩
  refine meth_go hbo rfl (by simp) hline (thn (po.run pins s σ H _ I h) fun u s1 ⟨x, H1, I1, rx, a, dx, fs, ex, ea, l, q⟩ => ?_)
  subst ex
  obtain rfl : u = Value.ref a := rx
  refine getmeth_ok I1 ea K hm l ?_
  exact PySem.W.callWith_K0 (first := [.ref a]) I1.kIn hm.kp (run_fnS (us := [.ref a]) (vs := [.ref a]) F hr hb (passAt tk σ) I1 (.cons rfl .nil) q)
end
end Vi

namespace Vi
open PySem L2

section
variable {w : Wd} {xr : Nat → Option Addr → V → Prop} {X : Cx} {W : WX} {b : Bs} {g g1 g2 : Gh} {z z1 z2 : Z} {σ : St} {H H1 H2 : Hp}

/-! ### raise C('m') -/
structure ExOk (K : PySem.W.Frag) (C : Addr) : Prop where
  ex : ∃ bm ni ii, PySem.ExcBaseFacts "ValueError" ni ii bm ∧ PySem.W.excIn K C bm ni = true
  kp : PySem.W.keepIn K (.ref C) = true
  sb : PySem.W.subIn K (.ref C) (.type "BaseException") = some true
  ty : PySem.W.typeIn K (.ref C) = some (.type "type")
theorem s_raise {cf : CF} {c j : Nat} {x m : Str} {p p2 pos pos' : Pos} (hc : X.calm = true) (tk : Takes X W) (T : ExOk X.K (w.cad c)) (hg : Gl X x) (hm : X.mg x = some (.ref (w.cad c))) (hdb : (x == ("__debug__" : Str)) = false) :
    SndS w xr X W (.Raise (some (.Call (.Name x p) [.Constant (.str m) j p2] [] pos)) none pos') (execS cf (.raise c)) := by
  obtain ⟨bm, ni, ii, F, q⟩ := T.ex
  refine ⟨_, ps_raise hc tk (pmk_own F q hm T.kp (raises_own T.sb T.ty) hg hdb), fun b g z σ H D S k => ?_⟩
  simp only [execS] at k
  exact k g σ H _ _ (.refl _) S ⟨rfl, .inl ⟨rfl, rfl⟩⟩
end
end Vi

namespace Vi
open PySem L2

/-! ### try .. except C as n -/
theorem PSs.mono {X : Cx} {e : List Stmt} {t t' : TS} (h : PSs X e t) (k : ∀ D σ H, t' D σ H → t D σ H) : PSs X e t' := ⟨fun pins s σ H D I q => h.run pins s σ H D I (k D σ H q)⟩
/-- the caught exception's own relation -/
def xrOf (cad : Nat → Addr) (a : Addr) (cls : Value) (d : Option Addr) : Nat → Option Addr → V → Prop := fun c d' v => v = .ref a ∧ cls = .ref (cad c) ∧ d' = d

section
variable {w : Wd} {xr : Nat → Option Addr → V → Prop} {X : Cx} {W : WX} {b : Bs} {g g1 g2 : Gh} {z z1 z2 : Z} {σ : St} {H H1 H2 : Hp}

/-- while a suite runs, the exception's dict stands still -/
def hold (b : Bs) (d : Option Addr) (H : Hp) : Bs := { b with H := fun a => if d = some a then H a else b.H a }
theorem hold_H {d : Option Addr} {a : Addr} (h : d ≠ some a) : (hold b d H).H a = b.H a := if_neg h
theorem noXd (S : Sim w xr b g z σ H) {a : Addr} {fs : List (Str × V)} (h : H a = some (.xd fs)) : a ∉ g.al := fun hm => by
  obtain ⟨x, q⟩ := S.boxIn hm
  cases x with
  | lst ds => obtain ⟨vs, q, _⟩ := q; rw [h] at q; cases q
  | dct kvs =>
    rcases q with ⟨l, q, _⟩ | ⟨l, q, _⟩
    · rw [h] at q; cases q
    · rw [h] at q; cases q
  | ins c fs => obtain ⟨dx, fv, q, _⟩ := q; rw [h] at q; cases q
  | lkd kvs => obtain ⟨q, _⟩ := q; rw [h] at q; cases q
theorem unEx_get {env : List Ent} {i : Nat} {e : Ent} (h : (unEx env)[i]? = some e) : e = .no ∨ (env[i]? = some e ∧ ∀ c x, e ≠ .ex c x) := by
  unfold unEx at h
  rw [List.getElem?_map] at h
  obtain ⟨e0, h1, h2⟩ := Option.map_eq_some_iff.mp h
  cases e0 with
  | ex c x => exact .inl h2.symm
  | no => exact .inl h2.symm
  | val d fr => subst h2; exact .inr ⟨h1, fun c x q => by cases q⟩
  | bor d => subst h2; exact .inr ⟨h1, fun c x q => by cases q⟩
/-- into the suite -/
theorem Sim.inSuite (S : Sim w xr b g z σ H) (hnx : ∀ c d v, ¬ xr c d v) {cls : Value} {c : Nat} {x : D} {d : Option Addr} {a : Addr} {i : Nat} (hi : i < z.env.length) (hx : XR w.cad g c x cls d H) (na : H a = none) :
    Sim w (xrOf w.cad a cls d) (hold b d H) g { z with env := z.env.set i (.ex c x) } (σ.set i (some (.ref a))) H := by
  obtain ⟨hcls, hx⟩ := hx
  have hd : ∀ c, d = some c → g.F c = none ∧ c ∉ g.al ∧ ∃ fs, H c = some (.xd fs) := fun c e => by
    rcases hx with ⟨h, _⟩ | ⟨dd, v, h, h1, h2, _⟩
    · rw [h] at e; cases e
    · rw [h] at e; cases e
      exact ⟨h2, noXd S h1, _, h1⟩
  have nd : ∀ {c : Addr}, (∃ d0, Cel g.F g.al H c d0) → d ≠ some c := fun {c} ⟨d0, hc⟩ e => by
    obtain ⟨_, _, fs, h3⟩ := hd c e
    cases d0 with
    | lst ds => obtain ⟨vs, q, _⟩ := hc; rw [h3] at q; cases q
    | dct kvs =>
      rcases hc with ⟨l, q, _⟩ | ⟨l, q, _⟩
      · rw [h3] at q; cases q
      · rw [h3] at q; cases q
    | _ => exact hc.elim
  have own : ∀ (j : Nat) (e : Ent), (z.env.set i (.ex c x))[j]? = some e → e.owns = true → j ≠ i ∧ z.env[j]? = some e := fun j e he ho => by
    by_cases hj : i = j
    · subst hj
      rw [List.getElem?_set_self hi] at he; cases he; cases ho
    · rw [List.getElem?_set_ne hj] at he
      exact ⟨Ne.symm hj, he⟩
  refine ⟨S.sub, fun a' ha' => ?_, fun a' o e n => ?_, S.pF, S.pre, fun a' ha' => ?_, S.alF, S.nd, S.box, by simp [S.len], by simp [S.ln], fun j e he => ?_, fun j k e e' hjk h1 h2 o1 o2 => ?_, S.rs⟩
  · rcases S.new a' ha' with h | h
    · exact .inl h
    · refine .inr ?_
      rw [hold_H fun e => ha' (hd a' e).1]; exact h
  · by_cases hq : d = some a'
    · have : (hold b d H).H a' = H a' := if_pos hq
      rw [← this]; exact e
    · rw [hold_H hq] at e
      exact S.kept a' o e n
  · rcases S.alnew a' ha' with h | h
    · exact .inl h
    · refine .inr ?_
      rw [hold_H fun e => (hd a' e).2.1 ha']; exact h
  · by_cases hj : i = j
    · subst hj
      rw [List.getElem?_set_self hi] at he; cases he
      refine ⟨.ref a, d, by rw [List.getElem?_set_self (by rw [← S.len]; exact hi)], ⟨rfl, hcls, rfl⟩, ?_⟩
      rcases hx with ⟨h, h'⟩ | ⟨dd, v, h, h1, h2, h3⟩
      · exact .inl ⟨h, h'⟩
      · refine .inr ⟨dd, v, h, ?_, fun q => noXd S h1 (S.pre.mem q), h3⟩
        have : (hold b d H).H dd = H dd := if_pos h
        rw [this]; exact h1
    · rw [List.getElem?_set_ne hj] at he ⊢
      have q := S.ent j e he
      cases e with
      | no => trivial
      | ex c' x' => obtain ⟨v, d', _, h, _⟩ := q; exact (hnx _ _ _ h).elim
      | bor d0 =>
        obtain ⟨v, h1, h2⟩ := q
        refine ⟨v, h1, ?_⟩
        cases d0 with
        | lst ds =>
          obtain ⟨a', vs, e1, n, q, r⟩ := h2
          refine ⟨a', vs, e1, n, ?_, r⟩
          have hk : ∀ {o}, b.H a' = some o → (∀ fs, o ≠ .xd fs) → (hold b d H).H a' = some o := fun {o} q ho => by
            rw [hold_H fun e => ?_]; exact q
            obtain ⟨_, _, fs, h3⟩ := hd a' e
            rw [S.kept a' o q n] at h3; cases h3; exact ho _ rfl
          rcases q with q | ⟨u, q⟩
          · exact .inl (hk q fun _ z => by cases z)
          · exact .inr ⟨u, hk q fun _ z => by cases z⟩
        | dct kvs =>
          obtain ⟨a', e1, n, q⟩ := h2
          have hk : ∀ {o}, b.H a' = some o → (∀ fs, o ≠ .xd fs) → (hold b d H).H a' = some o := fun {o} q ho => by
            rw [hold_H fun e => ?_]; exact q
            obtain ⟨_, _, fs, h3⟩ := hd a' e
            rw [S.kept a' o q n] at h3; cases h3; exact ho _ rfl
          refine ⟨a', e1, n, ?_⟩
          rcases q with ⟨l, q, r⟩ | ⟨l, q, r⟩
          · exact .inl ⟨l, (hk q fun _ z => by cases z), r⟩
          · exact .inr ⟨l, (hk q fun _ z => by cases z), r⟩
        | _ => exact h2.elim
      | val d0 fr =>
        obtain ⟨v, h1, h2⟩ := q
        refine ⟨v, h1, ?_⟩
        unfold ValRel at h2 ⊢
        split
        · rename_i hc
          rw [if_pos hc] at h2
          obtain ⟨a', ea, ow⟩ := h2
          exact ⟨a', ea, ow.nF, ow.nB, by rw [hold_H (nd ⟨_, ow.cl⟩)]; exact ow.nH, ow.nR, ow.cl⟩
        · rename_i hc
          rw [if_neg hc] at h2
          exact h2
  · obtain ⟨n1, q1⟩ := own j e h1 o1
    obtain ⟨n2, q2⟩ := own k e' h2 o2
    have ad : ∀ {j : Nat}, j ≠ i → sad (σ.set i (some (.ref a))) j = sad σ j := fun {j} hj => by
      unfold sad; rw [List.getElem?_set_ne (Ne.symm hj)]
    rw [ad n1, ad n2]
    exact S.dis j k e e' hjk q1 q2 o1 o2
theorem Sim.inSuite0 (S : Sim w xr b g z σ H) (hnx : ∀ c d v, ¬ xr c d v) (xr' : Nat → Option Addr → V → Prop) {cls : Value} {c : Nat} {x : D} {d : Option Addr} (hx : XR w.cad g c x cls d H) :
    Sim w xr' (hold b d H) g z σ H := by
  obtain ⟨hcls, hx⟩ := hx
  have hd : ∀ c, d = some c → g.F c = none ∧ c ∉ g.al ∧ ∃ fs, H c = some (.xd fs) := fun c e => by
    rcases hx with ⟨h, _⟩ | ⟨dd, v, h, h1, h2, _⟩
    · rw [h] at e; cases e
    · rw [h] at e; cases e
      exact ⟨h2, noXd S h1, _, h1⟩
  have nd : ∀ {c : Addr}, (∃ d0, Cel g.F g.al H c d0) → d ≠ some c := fun {c} ⟨d0, hc⟩ e => by
    obtain ⟨_, _, fs, h3⟩ := hd c e
    cases d0 with
    | lst ds => obtain ⟨vs, q, _⟩ := hc; rw [h3] at q; cases q
    | dct kvs =>
      rcases hc with ⟨l, q, _⟩ | ⟨l, q, _⟩
      · rw [h3] at q; cases q
      · rw [h3] at q; cases q
    | _ => exact hc.elim
  refine ⟨S.sub, fun a' ha' => ?_, fun a' o e n => ?_, S.pF, S.pre, fun a' ha' => ?_, S.alF, S.nd, S.box, S.len, S.ln, fun j e he => ?_, S.dis, S.rs⟩
  · rcases S.new a' ha' with h | h
    · exact .inl h
    · refine .inr ?_
      rw [hold_H fun e => ha' (hd a' e).1]; exact h
  · by_cases hq : d = some a'
    · have : (hold b d H).H a' = H a' := if_pos hq
      rw [← this]; exact e
    · rw [hold_H hq] at e
      exact S.kept a' o e n
  · rcases S.alnew a' ha' with h | h
    · exact .inl h
    · refine .inr ?_
      rw [hold_H fun e => (hd a' e).2.1 ha']; exact h
  · have q := S.ent j e he
    cases e with
    | no => trivial
    | ex c' x' => obtain ⟨v, d', _, h, _⟩ := q; exact (hnx _ _ _ h).elim
    | bor d0 =>
      obtain ⟨v, h1, h2⟩ := q
      refine ⟨v, h1, ?_⟩
      cases d0 with
      | lst ds =>
        obtain ⟨a', vs, e1, n, q, r⟩ := h2
        refine ⟨a', vs, e1, n, ?_, r⟩
        have hk : ∀ {o}, b.H a' = some o → (∀ fs, o ≠ .xd fs) → (hold b d H).H a' = some o := fun {o} q ho => by
          rw [hold_H fun e => ?_]; exact q
          obtain ⟨_, _, fs, h3⟩ := hd a' e
          rw [S.kept a' o q n] at h3; cases h3; exact ho _ rfl
        rcases q with q | ⟨u, q⟩
        · exact .inl (hk q fun _ z => by cases z)
        · exact .inr ⟨u, hk q fun _ z => by cases z⟩
      | dct kvs =>
        obtain ⟨a', e1, n, q⟩ := h2
        have hk : ∀ {o}, b.H a' = some o → (∀ fs, o ≠ .xd fs) → (hold b d H).H a' = some o := fun {o} q ho => by
          rw [hold_H fun e => ?_]; exact q
          obtain ⟨_, _, fs, h3⟩ := hd a' e
          rw [S.kept a' o q n] at h3; cases h3; exact ho _ rfl
        refine ⟨a', e1, n, ?_⟩
        rcases q with ⟨l, q, r⟩ | ⟨l, q, r⟩
        · exact .inl ⟨l, (hk q fun _ z => by cases z), r⟩
        · exact .inr ⟨l, (hk q fun _ z => by cases z), r⟩
      | _ => exact h2.elim
    | val d0 fr =>
      obtain ⟨v, h1, h2⟩ := q
      refine ⟨v, h1, ?_⟩
      unfold ValRel at h2 ⊢
      split
      · rename_i hc
        rw [if_pos hc] at h2
        obtain ⟨a', ea, ow⟩ := h2
        exact ⟨a', ea, ow.nF, ow.nB, by rw [hold_H (nd ⟨_, ow.cl⟩)]; exact ow.nH, ow.nR, ow.cl⟩
      · rename_i hc
        rw [if_neg hc] at h2
        exact h2
/-- and out again -/
theorem Sim.outSuite {d : Option Addr} {xr' : Nat → Option Addr → V → Prop} {H0 : Hp} {i : Nat} (S0 : Sim w xr b g1 z1 σ H0) (hd : ∀ c, d = some c → ∃ fs, H0 c = some (.xd fs)) {σ' : St} (S : Sim w xr' (hold b d H0) g z σ' H) :
    Sim w xr b g { z with env := (unEx z.env).set i .no } (σ'.set i none) H := by
  have none_of : ∀ {a : Addr}, (hold b d H0).H a = none → b.H a = none := fun {a} h => by
    by_cases e : d = some a
    · obtain ⟨fs, q⟩ := hd a e
      have : (hold b d H0).H a = H0 a := if_pos e
      rw [this, q] at h; cases h
    · rw [hold_H e] at h; exact h
  have some_of : ∀ {a : Addr} {o : HO}, (∀ fs, o ≠ .xd fs) → (hold b d H0).H a = some o → b.H a = some o := fun {a o} ho h => by
    by_cases e : d = some a
    · obtain ⟨fs, q⟩ := hd a e
      have : (hold b d H0).H a = H0 a := if_pos e
      rw [this, q] at h; cases h; exact (ho _ rfl).elim
    · rw [hold_H e] at h; exact h
  have S1 : Sim w xr b g { z with env := unEx z.env } σ' H := by
    refine ⟨S.sub, fun a h => ?_, fun a o e n => S.kept a o ?_ n, S.pF, S.pre, fun a h => ?_, S.alF, S.nd, S.box, by simp [unEx, S.len], S.ln, fun j e he => ?_, fun j k e e' hjk h1 h2 o1 o2 => ?_, S.rs⟩
    · rcases S.new a h with q | q
      · exact .inl q
      · exact .inr (none_of q)
    · by_cases q : d = some a
      · have : (hold b d H0).H a = H0 a := if_pos q
        rw [this]; exact S0.kept a o e n
      · rw [hold_H q]; exact e
    · rcases S.alnew a h with q | q
      · exact .inl q
      · exact .inr (none_of q)
    · rcases unEx_get he with rfl | ⟨h1, h2⟩
      · trivial
      · have q := S.ent j e h1
        cases e with
        | no => trivial
        | ex c x => exact absurd rfl (h2 c x)
        | bor d0 =>
          obtain ⟨v, e1, e2⟩ := q
          refine ⟨v, e1, ?_⟩
          cases d0 with
          | lst ds =>
            obtain ⟨a', vs, q1, n, q, r⟩ := e2
            refine ⟨a', vs, q1, n, ?_, r⟩
            rcases q with q | ⟨u, q⟩
            · exact .inl (some_of (fun _ z => by cases z) q)
            · exact .inr ⟨u, some_of (fun _ z => by cases z) q⟩
          | dct kvs =>
            obtain ⟨a', q1, n, q⟩ := e2
            refine ⟨a', q1, n, ?_⟩
            rcases q with ⟨l, q, r⟩ | ⟨l, q, r⟩
            · exact .inl ⟨l, some_of (fun _ z => by cases z) q, r⟩
            · exact .inr ⟨l, some_of (fun _ z => by cases z) q, r⟩
          | _ => exact e2.elim
        | val d0 fr =>
          obtain ⟨v, e1, e2⟩ := q
          refine ⟨v, e1, ?_⟩
          unfold ValRel at e2 ⊢
          split
          · rename_i hc
            rw [if_pos hc] at e2
            obtain ⟨a', ea, ow⟩ := e2
            exact ⟨a', ea, ow.nF, ow.nB, none_of ow.nH, ow.nR, ow.cl⟩
          · rename_i hc
            rw [if_neg hc] at e2
            exact e2
    · rcases unEx_get h1 with rfl | ⟨q1, _⟩
      · cases o1
      · rcases unEx_get h2 with rfl | ⟨q2, _⟩
        · cases o2
        · exact S.dis j k e e' hjk q1 q2 o1 o2
  exact S1.drop1 i
theorem ValRel.outSuite {d : Option Addr} {H0 : Hp} {d0 : D} {fr : Bool} {v : V} (hd : ∀ c, d = some c → ∃ fs, H0 c = some (.xd fs)) (h : ValRel w (hold b d H0) g H d0 fr v) : ValRel w b g H d0 fr v := by
  unfold ValRel at h ⊢
  split
  · rename_i hc
    rw [if_pos hc] at h
    obtain ⟨a', ea, ow⟩ := h
    refine ⟨a', ea, ow.nF, ow.nB, ?_, ow.nR, ow.cl⟩
    have q := ow.nH
    by_cases e : d = some a'
    · obtain ⟨fs, q2⟩ := hd a' e
      have : (hold b d H0).H a' = H0 a' := if_pos e
      rw [this, q2] at q; cases q
    · rw [hold_H e] at q; exact q
  · rename_i hc
    rw [if_neg hc] at h
    exact h
theorem XR.dict {cad : Nat → Addr} {c : Nat} {x : D} {cls : Value} {d : Option Addr} (h : XR cad g c x cls d H) : ∀ a, d = some a → ∃ fs, H a = some (.xd fs) := fun a e => by
  rcases h.2 with ⟨q, _⟩ | ⟨dd, v, q, h1, _⟩
  · rw [q] at e; cases e
  · rw [q] at e; cases e; exact ⟨_, h1⟩
theorem s_try {cf : CF} {c i : Nat} {x n : Str} {cv : Value} {body suite : List Stmt} {b₀ : Stmt} {ia ih : List S} {np pos pos' : Pos} (hnx : ∀ c d v, ¬ xr c d v) (hs : X.stack = X.env :: X.outer) (hf : X.env.frame = some X.env.locals) (hN : X.N.Nodup) (hm : X.N.length = w.m) (hi : X.N[i]? = some n) (hln : X.env.kindOf n = some .local) (hc : Names X x cv) (tk : Takes X W)
    (hsub : ∀ c', cf.sub c' c' = true → PySem.W.exmOne X.K (.ref (w.cad c')) cv = some (cf.sub c' c))
    (hb : ∀ (W' : WX) (pn : List (Addr × Obj)) (xe : Value → Shared → Prop), Takes (X.tr pn xe) W' → PassesOwn (model X.prog X.w) X.A X.env xe → SndSs w xr (X.tr pn xe) W' body (execB cf ia))
    (hsu : ∀ (a : Addr) (oe : Obj) (cls : Value) (d : Option Addr) (pn : List (Addr × Obj)), Zc cls d oe → (∃ vs, oe.data = .fields vs) → SndSs w (xrOf w.cad a cls d) (X.suite a ((a, oe) :: pn)) W0 (b₀ :: suite) (execB cf ih)) :
    SndS w xr X W (.Try body [.ExceptHandler (some (.Name x np)) (some n) (b₀ :: suite) pos'] [] [] pos) (execS cf (.tryE ia c i ih)) := by
  let tb : WX → TS := fun W' D σ H => ∀ pn xe (h1 : Takes (X.tr pn xe) W') (h2 : PassesOwn (model X.prog X.w) X.A X.env xe), Classical.choose (hb W' pn xe h1 h2) D σ H
  let ts : Addr → Value → Option Addr → TS := fun a cls d D σ H => ∀ oe pn (h1 : Zc cls d oe) (h2 : ∃ vs, oe.data = .fields vs), Classical.choose (hsu a oe cls d pn h1 h2) D σ H
  refine ⟨_, ps_try_as (tb := tb) (ts := ts) hs hf hN hi hln hc tk (fun W' pn xe h1 h2 => PSs.mono (Classical.choose_spec (hb W' pn xe h1 h2)).1 fun D σ H q => q pn xe h1 h2) (fun a oe cls d pn h1 h2 => PSs.mono (Classical.choose_spec (hsu a oe cls d pn h1 h2)).1 fun D σ H q => q oe pn h1 h2), fun b g z σ H D S k => fun pn xe h1 h2 => (Classical.choose_spec (hb _ pn xe h1 h2)).2 b g z σ H D S ?_⟩
  simp only [execS] at k
  cases r : execB cf ia z with
  | stuck => rw [r] at k; exact k
  | ok f z1 => rw [r] at k; exact k
  | exc c' d z1 =>
    rw [r] at k
    dsimp only at k
    split at k
    · rename_i hcc
      intro g' σ' H' cls dd l S' xx
      have hd := xx.dict
      refine ⟨cf.sub c' c, by rw [xx.1]; exact hsub c' hcc, fun hyes a na => ?_, fun hno => ?_⟩
      · rw [if_pos hyes] at k
        intro oe pn h1 h2
        have hlt : i < z1.env.length := by rw [S'.len, S'.ln, ← hm]; exact (List.getElem?_eq_some_iff.mp hi).1
        have S2 := S'.inSuite hnx (cls := cls) hlt xx na
        refine (Classical.choose_spec (hsu a oe cls dd pn h1 h2)).2 (hold b dd H') g' _ _ H' _ S2 ?_
        cases r2 : execB cf ih { z1 with env := z1.env.set i (.ex c' d) } with
        | stuck => rw [r2] at k; exact k.elim
        | exc c2 d2 z2 => rw [r2] at k; exact k.elim
        | ok f z2 =>
          rw [r2] at k
          cases f with
          | next => exact fun g2 σ2 H2 l2 S3 => k g2 _ H2 (l.trans l2) (Sim.outSuite S' hd S3)
          | cont => exact fun g2 σ2 H2 l2 S3 => k g2 _ H2 (l.trans l2) (Sim.outSuite S' hd S3)
          | ret d0 fr => exact fun g2 σ2 H2 v l2 S3 rv => k g2 _ H2 v (l.trans l2) (Sim.outSuite S' hd S3) (ValRel.outSuite hd rv)
      · rw [hno] at k
        exact k g' σ' H' cls dd l S' xx
    · exact k.elim
/-- try .. except C: -/
theorem set_out {α : Type} {l : List α} {i : Nat} {x : α} (h : l.length ≤ i) : l.set i x = l := by
  apply List.ext_getElem?
  intro j
  by_cases hj : i = j
  · subst hj; rw [List.getElem?_eq_none (by simpa using h), List.getElem?_eq_none h]
  · rw [List.getElem?_set_ne hj]
theorem s_try0 {cf : CF} {c i : Nat} {x : Str} {cv : Value} {body suite : List Stmt} {b₀ : Stmt} {ia ih : List S} {np pos pos' : Pos} (hnx : ∀ c d v, ¬ xr c d v) (hs : X.stack = X.env :: X.outer) (hf : X.env.frame = some X.env.locals) (hm : X.N.length = w.m) (hi : X.N.length ≤ i) (hc : Names X x cv) (tk : Takes X W)
    (hsub : ∀ c', cf.sub c' c' = true → PySem.W.exmOne X.K (.ref (w.cad c')) cv = some (cf.sub c' c))
    (hb : ∀ (W' : WX) (pn : List (Addr × Obj)) (xe : Value → Shared → Prop), Takes (X.tr pn xe) W' → PassesOwn (model X.prog X.w) X.A X.env xe → SndSs w xr (X.tr pn xe) W' body (execB cf ia))
    (hsu : ∀ (a : Addr) (oe : Obj) (cls : Value) (d : Option Addr) (pn : List (Addr × Obj)), Zc cls d oe → (∃ vs, oe.data = .fields vs) → SndSs w (xrOf w.cad a cls d) (X.suite a ((a, oe) :: pn)) W0 (b₀ :: suite) (execB cf ih)) :
    SndS w xr X W (.Try body [.ExceptHandler (some (.Name x np)) none (b₀ :: suite) pos'] [] [] pos) (execS cf (.tryE ia c i ih)) := by
  let tb : WX → TS := fun W' D σ H => ∀ pn xe (h1 : Takes (X.tr pn xe) W') (h2 : PassesOwn (model X.prog X.w) X.A X.env xe), Classical.choose (hb W' pn xe h1 h2) D σ H
  let ts : Addr → Value → Option Addr → TS := fun a cls d D σ H => ∀ oe pn (h1 : Zc cls d oe) (h2 : ∃ vs, oe.data = .fields vs), Classical.choose (hsu a oe cls d pn h1 h2) D σ H
  refine ⟨_, ps_try_only (tb := tb) (ts := ts) hs hf hc tk (fun W' pn xe h1 h2 => PSs.mono (Classical.choose_spec (hb W' pn xe h1 h2)).1 fun D σ H q => q pn xe h1 h2) (fun a oe cls d pn h1 h2 => PSs.mono (Classical.choose_spec (hsu a oe cls d pn h1 h2)).1 fun D σ H q => q oe pn h1 h2), fun b g z σ H D S k => fun pn xe h1 h2 => (Classical.choose_spec (hb _ pn xe h1 h2)).2 b g z σ H D S ?_⟩
  simp only [execS] at k
  cases r : execB cf ia z with
  | stuck => rw [r] at k; exact k
  | ok f z1 => rw [r] at k; exact k
  | exc c' d z1 =>
    rw [r] at k
    dsimp only at k
    split at k
    · rename_i hcc
      intro g' σ' H' cls dd l S' xx
      have hd := xx.dict
      refine ⟨cf.sub c' c, by rw [xx.1]; exact hsub c' hcc, fun hyes a na => ?_, fun hno => ?_⟩
      · rw [if_pos hyes] at k
        intro oe pn h1 h2
        have S2 := S'.inSuite0 hnx (xrOf w.cad a cls dd) (cls := cls) xx
        refine (Classical.choose_spec (hsu a oe cls dd pn h1 h2)).2 (hold b dd H') g' _ _ H' _ S2 ?_
        have e1 : z1.env.set i (.ex c' d) = z1.env := set_out (by rw [S'.len, S'.ln, ← hm]; exact hi)
        rw [e1] at k
        have out : ∀ {g2 z2 σ2 H2}, Sim w (xrOf w.cad a cls dd) (hold b dd H') g2 z2 σ2 H2 → Sim w xr b g2 { z2 with env := (unEx z2.env).set i .no } σ2 H2 := fun {g2 z2 σ2 H2} S3 => by
          have := Sim.outSuite (i := i) S' hd S3
          rw [set_out (l := σ2) (by rw [S3.ln, ← hm]; exact hi)] at this
          exact this
        cases r2 : execB cf ih { z1 with env := z1.env } with
        | stuck => rw [r2] at k; exact k.elim
        | exc c2 d2 z2 => rw [r2] at k; exact k.elim
        | ok f z2 =>
          rw [r2] at k
          cases f with
          | next => exact fun g2 σ2 H2 l2 S3 => k g2 _ H2 (l.trans l2) (out S3)
          | cont => exact fun g2 σ2 H2 l2 S3 => k g2 _ H2 (l.trans l2) (out S3)
          | ret d0 fr => exact fun g2 σ2 H2 v l2 S3 rv => k g2 _ H2 v (l.trans l2) (out S3) (ValRel.outSuite hd rv)
      · rw [hno] at k
        exact k g' σ' H' cls dd l S' xx
    · exact k.elim
end
end Vi

namespace PySem.W
open PySem PySem.Spec PySem.Calls PyProof.Rows
section
variable {P : Program} {wd : World} {R : Around} {E : Value → Shared → Prop} {st : Shared} {K : Frag} {x Dc : Addr} {ob : Obj} {dob : Option Obj}
/-- what isinstance asks of an exception's class, with or without a dict of its own -/
structure XcF (K : Frag) (Dc : Addr) : Prop where
  ga : findIn K (.ref Dc) "__getattribute__" = some (some (.builtin "BaseException.__getattribute__"))
  gt : findIn K (.ref Dc) "__getattr__" = some none
  sb : subIn K (.ref Dc) (.type "BaseException") = some true
  hd : hasDictIn K Dc = true
  cl : findIn K (.ref Dc) "__class__" = some (some (.builtin "object.__class__"))
  ds : specialIn K (.builtin "object.__class__") "__get__" = some (some (.builtin "getset_descriptor.__get__"))
  tk : takesIn K (.builtin "object.__class__") = some true
  mr : mroIn K Dc (.type "object") = some true
theorem XcF.obj (F : XcF K Dc) : findObj K Dc dob "__class__" = some (.bind (.builtin "getset_descriptor.__get__") (.builtin "object.__class__")) := by
  obtain ⟨cd, hc, _⟩ := any_some F.hd
  unfold findObj
  rw [hc, Option.bind_some, F.cl, Option.bind_some]
  simp [F.ds, F.tk]
theorem xc_class {Q : Option Value → Shared → Prop} (F : XcF K Dc) (X : K.In st.heap) (J : InstAt st.heap x ob Dc dob) (h : Q (some (.ref Dc)) { st with toks := st.toks + 1 }) :
    wpAny (model P wd) R (getAttr? (.ref x) "__class__") Q E st := by
  have fo := F.obj (dob := dob)
  obtain ⟨m0, g0, d0, t0, o0⟩ := st
  have lt := J.type (M := model P wd)
  have lg := looks_findIn (M := model P wd) X F.ga
  have lh := looks_findIn (M := model P wd) X F.gt
  have lf := looks_find (M := model P wd) X J fo
  have inst : Looks (model P wd) m0 (isInstance (.ref x) (.type "BaseException")) true := lt.andThen (looks_subIn X F.sb)
  have n0 : (false && onTheHeap (Value.builtin "BaseException.__getattribute__")) = false := rfl
  have n1 : (onTheHeap (Value.ref Dc) && Value.builtin "BaseException.__getattribute__" == Value.builtin "object.__getattribute__") = false := by
    have : (Value.builtin "BaseException.__getattribute__" == Value.builtin "object.__getattribute__") = false := by decide +kernel
    rw [this]; rfl
  unfold getAttr? getAttrBy? getAttrBy
  refine wpAny_bind (wpAny_mkText (wpAny_bind (wpAny_attempt (wpAny_holding (wpAny_bind (lt.at (wpAny_bind (lg.at ?_))))))))
  show wpAny _ _ (if (onTheHeap (Value.ref Dc) && Value.builtin "BaseException.__getattribute__" == Value.builtin "object.__getattribute__") = true then _ else _) _ _ _
  rw [n1, if_neg Bool.false_ne_true]
  unfold getAttrByItsOwn hookBefore
  refine wpAny_bind ?_
  rw [if_pos (show onTheHeap (Value.ref Dc) = true from rfl)]
  refine lh.at ?_
  refine wpAny_bind (wpAny_attempt (wpAny_holding ?_))
  unfold callGetattribute
  rw [n0, if_neg Bool.false_ne_true]
  unfold boundAndCalled
  rw [PySem.F.excAttr_ValueError.ga.bind (.ref x)]
  refine wpAny_bind (wpAny_pure ?_)
  show wpAny _ _ (call (.builtin "BaseException.__getattribute__") [.ref x, .str "__class__" t0]) _ _ _
  refine wpAny_call (codeAny_call_builtin PySem.F.excAttr_ValueError.ga.plain PySem.F.entry_bexc_ga ?_)
  refine @check_slot (model P wd) _ _ ⟨m0, g0, d0, t0 + 1, o0⟩ "BaseException.__getattribute__" "BaseException" "__getattribute__" (.ref x) [.str "__class__" t0] [] _ (by decide +kernel) (by decide +kernel) inst (PySem.F.args_bexc_ga (.ref x) (.str "__class__" t0)) ?_
  unfold Builtin.«object.__getattribute__»
  refine wpAny_bind (wpAny_of_eq (a := ((Value.ref x : Value), [Value.str "__class__" t0])) (by first | rfl | (simp only [slotArgs]; rfl)) ?_)
  refine wpAny_bind (wpAny_pure (wpAny_bind (lt.at (wpAny_bind (lf.at ?_)))))
  show wpAny _ _ (holding [Value.builtin "object.__class__"] (call (.builtin "getset_descriptor.__get__") [.builtin "object.__class__", .ref x, .ref Dc]) >>= ret) _ _ _
  refine wpAny_bind (wpAny_holding (wpAny_call (class_get (s := ⟨m0, g0, d0, t0 + 1, o0⟩) (ox := ob) (od := dob) X J F.mr ?_)))
  refine wpAny_pure ?_
  show wpAny _ _ (handedOut (.ref Dc)) _ _ _
  rw [handedOut_of (v := .ref Dc) rfl]
  first
    | exact wpAny_pure (wpAny_pure h)
    | exact wpAny_pure h
    | exact wpAny_pure (wpAny_bind (wpAny_pure (wpAny_pure h)))
theorem xc_kit (F : XcF K Dc) : KitX K (.ref x) (.ref Dc) (fun h => InstAt h x ob Dc dob) := by
  obtain ⟨cd, hc, _⟩ := any_some F.hd
  unfold clsIn at hc
  split at hc
  · rename_i c' d' cd' sl' ho
    exact {
      ty := fun _ _ _ J => J.type
      it := fun _ _ X _ => by
        intro A' Q' E' s' k q
        unfold isType loadHead
        exact wpAny_bind (wpAny_loadPart (k _ _ (X _ _ ho)) (wpAny_pure q))
      ne := fun h tp dd its n sl X htp => by
        refine Bool.eq_false_iff.mpr fun q => ?_
        have e : Dc = tp := Value.ref.inj (beq_iff_eq.mp q)
        subst e
        have z := (X _ _ ho).symm.trans htp
        cases z
      ca := fun X J k => xc_class F X J k }
  · cases hc
end
end PySem.W
namespace Vi
open PySem L2

/-- the caught exception as it stands -/
theorem suite_inst {X : Cx} {a Dc : Addr} {oe : Obj} {d : Option Addr} {pn pins : List (Addr × Obj)} {σ : St} {H : Hp} {s : Shared} (hz : Zc (.ref Dc) d oe) (hf : ∃ vs, oe.data = .fields vs) (I : Inv (X.suite a ((a, oe) :: pn)) pins σ H s) (hd : ∀ dd, d = some dd → ∃ fs, H dd = some (.xd fs)) :
    ∃ dob, PySem.W.InstAt s.heap a oe Dc dob := by
  obtain ⟨hget, _⟩ := I.pin (a, oe) (List.mem_append.mpr (.inl List.mem_cons_self))
  obtain ⟨vs, hv⟩ := hf
  have hno : PySem.W.notCls oe = true := by unfold PySem.W.notCls; rw [hv] <;> rfl
  cases d with
  | none => exact ⟨none, hget, hz.1, hno, by rw [hz.2]; exact trivial⟩
  | some dd =>
    obtain ⟨fs, hfs⟩ := hd dd rfl
    have hx : ObjOk X.prog X.w H s.heap dd (.xd fs) := I.hok dd _ hfs
    obtain ⟨mA, hns, _⟩ := hx
    obtain ⟨od, ho, _⟩ := lookIn_ns hns
    exact ⟨some od, hget, hz.1, hno, by rw [hz.2]; exact ho⟩
def rIsX (K : PySem.W.Frag) (Dc a : Addr) (d : Option Addr) : List V → Hp → VK → Prop := fun xs H Q => ∃ (c : V) (cv : Value) (b : Bool), xs = [.ref a, c] ∧ (∀ u, RelV c u → u = cv) ∧ PySem.W.kitOne K (.ref Dc) cv = some b ∧ (∀ dd, d = some dd → ∃ fs, H dd = some (.xd fs)) ∧ Q (.bl b) H
theorem cr_isX {X : Cx} {a Dc : Addr} {oe : Obj} {d : Option Addr} {pn : List (Addr × Obj)} (C : PySem.W.XcF X.K Dc) (hz : Zc (.ref Dc) d oe) (hf : ∃ vs, oe.data = .fields vs) : CallR (X.suite a ((a, oe) :: pn)) (.builtin "isinstance") (rIsX X.K Dc a d) := by
  intro pins s σ H xs us Q I r h
  obtain ⟨c, cv, b, rfl, hcv, e, hd, q⟩ := h
  cases r with
  | cons rx rr =>
    cases rr with
    | cons rt rr =>
      cases rr
      cases rx
      cases hcv _ rt
      obtain ⟨dob, J⟩ := suite_inst hz hf I hd
      exact PySem.W.kia_one (PySem.W.xc_kit C) I.kIn J e (fun z => nomatch z) fun tk => ⟨.bl b, H, I.kept (t' := tk) fun _ _ z => z, rfl, q⟩
def rIsXT (K : PySem.W.Frag) (Dc a : Addr) (d : Option Addr) : List V → Hp → VK → Prop := fun xs H Q => ∃ (tp : Addr) (cs : List V) (cvs : List Value) (b : Bool), xs = [.ref a, .ref tp] ∧ H tp = some (.tup cs) ∧ (∀ us, Vals cs us → us = cvs) ∧ PySem.W.kitAny K (.ref Dc) cvs = some b ∧ (∀ dd, d = some dd → ∃ fs, H dd = some (.xd fs)) ∧ Q (.bl b) H
theorem cr_isXT {X : Cx} {a Dc : Addr} {oe : Obj} {d : Option Addr} {pn : List (Addr × Obj)} (C : PySem.W.XcF X.K Dc) (hz : Zc (.ref Dc) d oe) (hf : ∃ vs, oe.data = .fields vs) : CallR (X.suite a ((a, oe) :: pn)) (.builtin "isinstance") (rIsXT X.K Dc a d) := by
  intro pins s σ H xs us Q I r h
  obtain ⟨tp, cs, cvs, b, rfl, ht, hcv, e, hd, q⟩ := h
  cases r with
  | cons rx rr =>
    cases rr with
    | cons rt rr =>
      cases rr
      cases rx
      cases rt
      obtain ⟨dob, J⟩ := suite_inst hz hf I hd
      obtain ⟨hsz, its, rv, o, ho, hcl, n, hdt⟩ := I.hok tp _ ht
      cases hcv _ rv
      obtain ⟨oc, od, odt, osl⟩ := o
      dsimp only at hcl hdt
      subst hcl hdt
      exact PySem.W.kia_tup (PySem.W.xc_kit C) I.kIn J ho e (fun z => nomatch z) fun tk => ⟨.bl b, H, I.kept (t' := tk) fun _ _ z => z, rfl, q⟩
section
variable {w : Wd} {X0 : Cx} {W : WX} {b : Bs} {g : Gh} {z : Z} {σ : St} {H : Hp} {a : Addr} {oe : Obj} {cls : Value} {d : Option Addr} {pn : List (Addr × Obj)}
/-- what the suite's own slot says -/
theorem ex_at (S : Sim w (xrOf w.cad a cls d) b g z σ H) {i c : Nat} {x : D} (h : z.env[i]? = some (.ex c x)) : σ[i]? = some (some (.ref a)) ∧ cls = .ref (w.cad c) ∧ ((d = none ∧ x = .tup []) ∨ ∃ dd v, d = some dd ∧ H dd = some (.xd [("place", v)]) ∧ ∀ F al, Rp F al x v) := by
  obtain ⟨v, d', h1, ⟨rfl, h2, rfl⟩, h3⟩ := S.ent i _ h
  refine ⟨h1, h2, ?_⟩
  rcases h3 with h3 | ⟨dd, v, e1, e2, e3, e4⟩
  · exact .inl h3
  · exact .inr ⟨dd, v, e1, S.kept dd _ e2 e3, e4⟩
theorem s_isx {cf : CF} {i c : Nat} {x : Str} {y : Expr} {cvV : V} {cu : Value} {p0 p1 pos : Pos} (hz : Zc cls d oe) (hf : ∃ vs, oe.data = .fields vs) (hN : X0.N[i]? = some x) (hv : Vis X0.env.scope x) (hdb : (x == ("__debug__" : Str)) = false) (hcd : (x == ("__classdict__" : Str)) = false) (hg : Gl X0 "isinstance") (hm : X0.mg "isinstance" = none) (hst : Expr.star y = false)
    (hC : ∀ c', cf.sub c' c' = true → PySem.W.XcF X0.K (w.cad c')) (hk : ∀ c', cf.sub c' c' = true → PySem.W.kitOne X0.K (.ref (w.cad c')) cu = some (cf.sub c' c)) (hy : PE (X0.suite a ((a, oe) :: pn)) y (tC cvV)) (hu : ∀ u, RelV cvV u → u = cu) :
    SndE w (xrOf w.cad a cls d) (X0.suite a ((a, oe) :: pn)) W (.Call (.Name "isinstance" p0) [.Name x p1, y] [] pos) (evalE cf (.isx i [c])) := by
  obtain ⟨t, pa, qa⟩ : ∃ t, PA (X0.suite a ((a, oe) :: pn)) [.Name x p1, y] t ∧ ∀ σ H (Q : List V → Hp → Prop), (∃ v, σ[i]? = some (some v) ∧ Q [v, cvV] H) → t σ H Q :=
    ⟨_, pa_cons (pe_var hN hv hdb hcd) (pa_cons hy pa_nil (star_ok hst _ _)) (star_ok rfl _ _), fun σ H Q ⟨v, h1, h2⟩ => ⟨v, h1, h2⟩⟩
  refine ⟨fun σ H Q => ∃ c', cf.sub c' c' = true ∧ cls = .ref (w.cad c') ∧ tCB (rIsX X0.K (w.cad c') a d) t σ H Q, ⟨fun pins s σ H Q I h => ?_⟩, fun b g z σ H Q S k => ?_⟩
  · obtain ⟨c', h1, rfl, h⟩ := h
    exact (pe_callB (cr_isX (hC c' h1) hz hf) hg hm PyProof.Rows.boot_isinstance pa (by decide) (by decide) (star_ok rfl _ _) (star_any _ _ _ (by simp [hst]))).run pins s σ H Q I h
  · simp only [evalE] at k
    split at k
    · rename_i c0 x0 he
      split at k
      · rename_i hs
        obtain ⟨h1, h2, h3⟩ := ex_at S he
        refine ⟨c0, hs, h2, qa _ _ _ ⟨_, h1, cvV, cu, cf.sub c0 c, rfl, hu, hk c0 hs, fun dd e => ?_, ?_⟩⟩
        · rcases h3 with ⟨q, _⟩ | ⟨dd', v, q, q2, _⟩
          · rw [q] at e; cases e
          · rw [q] at e; cases e; exact ⟨_, q2⟩
        · exact PostE.now S (by simp [Rp]) k
      · exact k.elim
    · exact k.elim
theorem s_isxT {cf : CF} {i : Nat} {cs : List Nat} {x : Str} {ys : List Expr} {cvs : List V} {cus : List Value} {k0 : Nat} {p0 p1 p2 pos : Pos} (hz : Zc cls d oe) (hf : ∃ vs, oe.data = .fields vs) (hN : X0.N[i]? = some x) (hv : Vis X0.env.scope x) (hdb : (x == ("__debug__" : Str)) = false) (hcd : (x == ("__classdict__" : Str)) = false) (hg : Gl X0 "isinstance") (hm : X0.mg "isinstance" = none)
    (hC : ∀ c', cf.sub c' c' = true → PySem.W.XcF X0.K (w.cad c')) (hk : ∀ c', cf.sub c' c' = true → PySem.W.kitAny X0.K (.ref (w.cad c')) cus = some (cs.any fun c => cf.sub c' c)) (hl : cvs.length ≤ 1000) (hy : ∃ t, PA (X0.suite a ((a, oe) :: pn)) ys t ∧ ∀ σ H (Q : List V → Hp → Prop), Q cvs H → t σ H Q) (hu : ∀ us, Vals cvs us → us = cus) :
    SndE w (xrOf w.cad a cls d) (X0.suite a ((a, oe) :: pn)) W (.Call (.Name "isinstance" p0) [.Name x p1, .Tuple ys k0 p2] [] pos) (evalE cf (.isx i cs)) := by
  obtain ⟨ty, py, qy⟩ := hy
  obtain ⟨t, pa, qa⟩ : ∃ t, PA (X0.suite a ((a, oe) :: pn)) [.Name x p1, .Tuple ys k0 p2] t ∧ ∀ σ H (Q : List V → Hp → Prop), (∃ v, σ[i]? = some (some v) ∧ ∀ tp, H tp = none → Q [v, .ref tp] (upd H tp (.tup cvs))) → t σ H Q :=
    ⟨_, pa_cons (pe_var hN hv hdb hcd) (pa_cons (pe_tup py) pa_nil (star_ok rfl _ _)) (star_ok rfl _ _), fun σ H Q ⟨v, h1, h2⟩ => ⟨v, h1, qy _ _ _ ⟨by rw [PySem.sizeLine_eq]; omega, fun p hp => h2 p hp⟩⟩⟩
  refine ⟨fun σ H Q => ∃ c', cf.sub c' c' = true ∧ cls = .ref (w.cad c') ∧ tCB (rIsXT X0.K (w.cad c') a d) t σ H Q, ⟨fun pins s σ H Q I h => ?_⟩, fun b g z σ H Q S k => ?_⟩
  · obtain ⟨c', h1, rfl, h⟩ := h
    exact (pe_callB (cr_isXT (hC c' h1) hz hf) hg hm PyProof.Rows.boot_isinstance pa (by decide) (by decide) (star_ok rfl _ _) (star_any _ _ _ rfl)).run pins s σ H Q I h
  · simp only [evalE] at k
    split at k
    · rename_i c0 x0 he
      split at k
      · rename_i hs
        obtain ⟨h1, h2, h3⟩ := ex_at S he
        refine ⟨c0, hs, h2, qa _ _ _ ⟨_, h1, fun tp htp => ⟨tp, cvs, cus, _, rfl, upd_same, hu, hk c0 hs, fun dd e => ?_, ?_⟩⟩⟩
        · rcases h3 with ⟨q, _⟩ | ⟨dd', v, q, q2, _⟩
          · rw [q] at e; cases e
          · rw [q] at e; cases e
            exact ⟨_, by rw [upd_ne (ne_of_none q2 htp)]; exact q2⟩
        · exact PostE.now (S.alloc htp) (by simp [Rp]) (PostE.step (S.alloc htp) (Stp.alloc htp) k)
      · exact k.elim
    · exact k.elim
/-- error.place -/
theorem s_xpl {cf : CF} {i : Nat} {x : Str} {p1 pos : Pos} (hz : Zc cls d oe) (hf : ∃ vs, oe.data = .fields vs) (hN : X0.N[i]? = some x) (hv : Vis X0.env.scope x) (hdb : (x == ("__debug__" : Str)) = false) (hcd : (x == ("__classdict__" : Str)) = false)
    (hC : ∀ c', cf.sub c' c' = true → XfC X0.K (w.cad c') ∧ PySem.W.findIn X0.K (.ref (w.cad c')) "place" = some none) :
    SndE w (xrOf w.cad a cls d) (X0.suite a ((a, oe) :: pn)) W (.Attribute (.Name x p1) "place" pos) (evalE cf (.xpl i)) := by
  refine ⟨fun σ H Q => ∃ c', cf.sub c' c' = true ∧ cls = .ref (w.cad c') ∧ σ[i]? = some (some (.ref a)) ∧ ∃ dd fs v, d = some dd ∧ H dd = some (.xd fs) ∧ fs.lookup ("place" : Str) = some v ∧ Q v H, ⟨fun pins s σ H Q I h => ?_⟩, fun b g z σ H Q S k => ?_⟩
  · obtain ⟨c', h1, rfl, hσ, dd, fs, v, e1, e2, e3, q⟩ := h
    obtain ⟨T, hno⟩ := hC c' h1
    exact (pe_xf T hno hz hf (pe_var hN hv hdb hcd) rfl).run pins s σ H Q I ⟨_, hσ, rfl, rfl, dd, fs, v, e1, e2, e3, q⟩
  · simp only [evalE] at k
    split at k
    · rename_i c0 x0 he
      split at k
      · rename_i hs
        obtain ⟨h1, h2, h3⟩ := ex_at S he
        rcases h3 with ⟨_, rfl⟩ | ⟨dd, v, e1, e2, e3⟩
        · cases hs.1
        · exact ⟨c0, hs.2, h2, h1, dd, _, v, e1, e2, by simp [List.lookup], PostE.now S (e3 _ _) k⟩
      · exact k.elim
    · exact k.elim
end
end Vi


namespace Vi
open PySem L2

def scB (N ps : List Str) (sc : Scope) : Bool :=
  decide (sc.kind = .function) && decide (sc.isCoroutine = false) && decide (sc.isGenerator = false) && decide N.Nodup && decide (N.take ps.length = ps) &&
  decide (∀ x ∈ ps, sc.names.lookup x = some .local ∨ sc.names.lookup x = some .cell) && decide (∀ y ∈ sc.names, y.2 ≠ .free)
theorem sc_ok {N ps : List Str} {sc : Scope} (h : scB N ps sc = true) : FnScope N ps sc := by
  unfold scB at h
  simp only [Bool.and_eq_true, decide_eq_true_eq] at h
  obtain ⟨⟨⟨⟨⟨⟨h1, h2⟩, h3⟩, h4⟩, h5⟩, h6⟩, h7⟩ := h
  exact ⟨h1, h2, h3, h4, h5, h6, h7⟩
/-! ### errors with a place: C.__init__ is FlowError.__init__(self, ..); self.place = place -/
structure ExiOk (K : PySem.W.Frag) (mg : Str → Option Value) (C CF fI : Addr) (xF : Str) : Prop where
  T : OexC K C
  iC : PySem.W.findIn K (.ref C) "__init__" = some (some (.ref fI))
  tI : PySem.W.typeIn K (.ref fI) = some (.type "function")
  noP : PySem.W.findIn K (.ref C) "place" = some none
  rd : PySem.W.readsIn K CF (.type "type") = true
  ga : PySem.W.specialIn K (.ref CF) "__getattribute__" = some (some (.builtin "type.__getattribute__"))
  vi : PySem.W.findCls K (.ref CF) (.type "type") "__init__" = some (.val (.builtin "ValueError.__init__"))
  gF : mg xF = some (.ref CF)
def spExi (C : Addr) : Sp := fun vs H Q _ => ∃ (a : Addr) (v : V), vs = [.ref a, v] ∧ H a = some (exo a C none) ∧ ∀ dx, H dx = none → dx ≠ a → Q .non (upd (upd H dx (exd dx [("place", v)])) a (exo a C (some dx)))
/-- the __init__ that is meant -/
def exiB (xF : Str) (st : Stmt) : Bool := match defBody st with
  | [.Expr (.Call (.Attribute (.Name x _) m ap) [.Name s1 _, .Constant (.str t) _ _] [] cp) _, .Assign [.Attribute (.Name s2 _) f _] (.Name pl _) _] =>
    decide (x = xF) && decide (m = "__init__") && (ap.endLine == cp.line) && decide (s1 = "self") && decide (s2 = "self") && decide (f = "place") && decide (pl = "place") && decide ((defScope st).names.lookup x = some .globalImplicit) && !(x == ("__debug__" : Str)) &&
      decide ((defScope st).names.lookup ("self" : Str) = some .local) && decide ((defScope st).names.lookup ("place" : Str) = some .local) && scB ["self", "place"] ["self", "place"] (defScope st)
  | _ => false
section
variable {P : Program} {wd : World} {K : PySem.W.Frag} {mg : Str → Option Value} {base : Heap} {C CF fI : Addr} {xF qn : Str} {st : Stmt} {fd : FuncData}
theorem pe_flow {X : Cx} {e : Expr} {es : List Expr} {ta : TA} {p1 p2 pos : Pos} (hg : Gl X xF) (hm : X.mg xF = some (.ref CF)) (hdb : (xF == ("__debug__" : Str)) = false) (rd : PySem.W.readsIn X.K CF (.type "type") = true) (ga : PySem.W.specialIn X.K (.ref CF) "__getattribute__" = some (some (.builtin "type.__getattribute__")))
    (vi : PySem.W.findCls X.K (.ref CF) (.type "type") "__init__" = some (.val (.builtin "ValueError.__init__"))) (ha : PA X (e :: es) ta) (hs : Expr.star e = false) (hs2 : es.all (fun e => !Expr.star e) = true) (hn : (e :: es).length < 30) (hl : (p2.endLine == pos.line) = true) :
    PE X (.Call (.Attribute (.Name xF p1) "__init__" p2) (e :: es) [] pos) (tVeI X.K ta) := by
  refine ⟨fun pins s σ H Q I h => meth_go rfl (by simp only [List.all_cons, hs, hs2]; rfl) hn hl (ld_glob I hg hm ?_ hdb)⟩
  refine PySem.W.method_cls I.kIn ga (PySem.W.cls_value I.kIn rd vi rfl ?_)
  show wpAny _ _ (callWith pos (Value.builtin "ValueError.__init__") [] (backTo pos (starEach (e :: es) X.env)) []) _ _ _
  refine PyProof.Rows.callWith_method1 (thn (ha.run pos pins _ σ H _ (I.tok _) h) fun us s1 ⟨vs, H1, I1, r1, a, C, ws, ev, hl, T, ea, q⟩ => ?_) (star_ok hs _ _) (star_any _ _ _ hs2)
  subst ev
  cases r1 with
  | @cons _ u0 _ ur ra rw' =>
    cases ra
    have hlen : ur.length ≤ sizeLine := by
      rw [← Paired.length rw', PySem.sizeLine_eq]
      omega
    exact oinit_ok T I1 ea hlen fun s' J => ⟨.non, H1, J, rfl, q⟩
theorem exi_fn (T : ExiOk K mg C CF fI xF) (F : Fun K "__init__" qn st fI fd) (hB : exiB xF st = true) : FnOk P wd K mg base (L2.CX P wd) 1 fI fd ["self", "place"] (spExi C) := by
  unfold exiB at hB
  split at hB
  · rename_i x p1 m ap s1 p2 t j p3 cp p4 s2 p5 f p6 pl p7 p8 hb
    simp only [Bool.and_eq_true, decide_eq_true_eq, Bool.not_eq_true'] at hB
    obtain ⟨⟨⟨⟨⟨⟨⟨⟨⟨⟨⟨rfl, rfl⟩, h1⟩, rfl⟩, rfl⟩, rfl⟩, rfl⟩, h2⟩, h3⟩, h4⟩, h5⟩, h6⟩ := hB
    have SC := sc_ok h6
    refine F.okX SC (fun vs H Q E h => by obtain ⟨a, v, rfl, _⟩ := h; rfl) fun cdv A outer s H vs Q E hr h => ?_
    obtain ⟨a, v, rfl, ha, k⟩ := h
    rw [hb]
    have v0 : PE (cxOf (L2.CX P wd) P wd K mg base ["self", "place"] qn (defScope st) fI cdv A outer s H E) (.Name "self" p2) _ := pe_var (i := 0) rfl (.inl h4) (by decide) (by decide)
    have v0' : PE (cxOf (L2.CX P wd) P wd K mg base ["self", "place"] qn (defScope st) fI cdv A outer s H E) (.Name "self" p5) _ := pe_var (i := 0) rfl (.inl h4) (by decide) (by decide)
    have v1 : PE (cxOf (L2.CX P wd) P wd K mg base ["self", "place"] qn (defScope st) fI cdv A outer s H E) (.Name "place" p7) _ := pe_var (i := 1) rfl (.inl h5) (by decide) (by decide)
    refine ⟨_, pss_cons (ps_expr (pe_flow (show Gl _ x from h2) T.gF h3 T.rd T.ga T.vi (pa_cons v0 (pa_cons pe_str pa_nil)) rfl rfl (by simp) h1)) (pss_cons (ps_ost v0' v1) pss_nil), ?_⟩
    refine ⟨.ref a, rfl, a, C, [.str t], rfl, by simp, T.T, ha, ?_⟩
    exact ⟨v, rfl, .ref a, rfl, a, C, rfl, T.T, T.noP, .inl ⟨ha, fun dx h1 h2 => k dx h1 h2⟩⟩
  · cases hB
end
theorem flat_rp {F : Hp} {al : List Addr} {x : D} {v : V} (hx : x.flat = true) (h : Rp F al x v) : ∀ F al, Rp F al x v := by
  intro F al
  cases x <;> first | (simp [D.flat] at hx; done) | exact h
section
variable {w : Wd} {xr : Nat → Option Addr → V → Prop} {X : Cx} {W : WX} {b : Bs} {g : Gh} {z : Z} {σ : St} {H : Hp}
theorem s_raiseP {cf : CF} {c lv : Nat} {fI : Addr} {fd : FuncData} {x : Str} {e : Expr} {ie : E} {p pos pos' : Pos} (hc : X.calm = true) (tk : Takes X W) (T : OexC X.K (w.cad c)) (iC : PySem.W.findIn X.K (.ref (w.cad c)) "__init__" = some (some (.ref fI))) (tI : PySem.W.typeIn X.K (.ref fI) = some (.type "function"))
    (F1 : FnOk X.prog X.w X.K X.mg X.base (L2.CX X.prog X.w) 1 fI fd ["self", "place"] (spExi (w.cad c))) (hr : Room lv X.A) (hlv : cf.lv = lv) (hb : Binds X.K fd ["self", "place"] []) (hg : Gl X x) (hm : X.mg x = some (.ref (w.cad c))) (hdb : (x == ("__debug__" : Str)) = false) (hs : Expr.star e = false) (he : SndE w xr X W e (evalE cf ie)) :
    SndS w xr X W (.Raise (some (.Call (.Name x p) [e] [] pos)) none pos') (execS cf (.raiseP c ie)) := by
  obtain ⟨t, pe, q⟩ := he.F
  have hx : Passes (L2.CX X.prog X.w) X (fun _ _ _ => False) := fun _ _ _ _ _ _ _ c => by
    obtain ⟨_, _, _, _, _, _, _, _, _, _, _, _, h⟩ := c
    exact h.elim
  have pa := pa_cons pe pa_nil (star_ok hs _ _)
  by_cases h2 : 2 ≤ lv
  · refine ⟨_, ps_raise hc tk (pmk_oex T iC tI F1 (hr.mono h2) hb .nil hx hg hm pa hdb (star_ok hs _ _) rfl), fun b g z σ H D S k => q b g z σ H _ S ?_⟩
    simp only [execS] at k
    simp only [fst1]
    cases r : evalE cf ie z with
    | stuck => rw [r] at k; exact k
    | exc c x z' => rw [r] at k; exact exc_of k
    | ok a z1 =>
      rw [r] at k
      simp only [R.bind_ok] at k
      intro g1 v H1 st1 S1 rv
      split at k
      · rename_i hf
        refine ⟨by simp, fun a' ha' => ⟨a', v, rfl, upd_same, fun dx hdx ne => ⟨rfl, dx, [("place", v)], upd_same, ?_, ?_, ?_⟩⟩⟩
        · rw [upd_ne ne, upd_same]
        · rw [upd_ne ne] at hdx; exact hdx
        · rw [upd_ne ne] at hdx
          have hh : upd (del (upd (upd (upd H1 a' (exo a' (w.cad c) none)) dx (exd dx [("place", v)])) a' (exo a' (w.cad c) (some dx))) a') dx (.xd [("place", v)]) = upd H1 dx (.xd [("place", v)]) := by
            funext y
            by_cases e1 : y = dx
            · rw [e1, upd_same, upd_same]
            · rw [upd_ne e1, upd_ne e1]
              by_cases e2 : y = a'
              · rw [e2, del_same, ha']
              · rw [del_ne e2, upd_ne e2, upd_ne e1, upd_ne e2]
          rw [hh]
          exact k g1 σ _ _ _ st1.le (S1.alloc hdx) ⟨rfl, .inr ⟨dx, v, rfl, upd_same, S1.freshF hdx, flat_rp hf.1 rv⟩⟩
      · exact k.elim
  · have pm : PMk X (.Call (.Name x p) [e] [] pos) (fun σ H _ => t σ H fun _ _ => False) := by
      intro pins s σ H Q I h
      refine wpAny_Call_Name_kw (ld_glob I hg hm ?_ hdb)
      refine PySem.W.callWith_K (h₀ := X.base) I.ok.mod.kin T.kC (thn (pa.run pos pins s σ H (fun _ _ => False) I h) fun us s1 ⟨vs, H1, I1, r1, q1⟩ => q1.elim) (star_ok hs _ _) rfl
    refine ⟨_, ps_raise hc tk pm, fun b g z σ H D S k => q b g z σ H _ S ?_⟩
    simp only [execS] at k
    simp only [fst1]
    cases r : evalE cf ie z with
    | stuck => rw [r] at k; exact k
    | exc c x z' => rw [r] at k; exact exc_of k
    | ok a z1 =>
      rw [r] at k
      simp only [R.bind_ok] at k
      intro g1 v H1 st1 S1 rv
      rw [if_neg fun hf => h2 (by rw [← hlv]; exact hf.2)] at k
      exact k.elim
end
end Vi

namespace Vi
open PySem L2

/-! ### which text a piece of the small language stands for -/
/-- what a program has: defs by name (index; which parameters are only read), classes by name (class, __init__'s def), methods, error classes -/
structure PInf where
  fns : List (Str × Nat × List Bool)
  con : List (Str × D)
  free : List Str
  mks : List (Str × Nat × Nat × List Bool)
  mth : List (Nat × Str × Nat × List Bool)
  exs : List (Str × Nat)    -- error classes without __init__
  exi : List (Str × Nat)    -- error classes with a place
  exc : List (Str × Nat)    -- error classes that are asked for
  ve : Nat                  -- ValueError's number
structure CC where
  N : List Str
  sc : Scope
  top : Bool
  pi : PInf
  hot : Bool   -- within an except suite
def PInf.mt (p : PInf) (c : Nat) (m : Str) : Option (Nat × List Bool) := (p.mth.find? fun q => decide (q.1 = c) && decide (q.2.1 = m)).map (·.2.2)
inductive Md where
  | v | b | t | n
def Md.q : Md → Md
  | .t => .t
  | _ => .v
def seen : Option NameKind → Bool
  | some .local => true
  | some .cell => true
  | some .free => true
  | _ => false
def CC.var (cc : CC) (i : Nat) (x : Str) : Bool := decide (cc.N[i]? = some x) && seen (cc.sc.names.lookup x) && !(x == ("__debug__" : Str)) && !(x == ("__classdict__" : Str))
def CC.gl (cc : CC) (x : Str) : Bool := decide (cc.sc.names.lookup x = some .globalImplicit)
def CC.blt (cc : CC) (x : Str) : Bool := cc.gl x && decide (x ∈ cc.pi.free)
def plainT : Expr → Bool
  | .Name .. => true
  | .Call .. => true
  | .Subscript .. => true
  | .Attribute .. => true
  | .Constant .. => true
  | _ => false
def okT : Md → Expr → Bool
  | .t, e => plainT e
  | _, _ => true
def notSet : Expr → Bool
  | .Set .. => false
  | _ => true
def flatEq : D → D → Bool
  | .non, .non => true
  | .bl a, .bl b => a == b
  | .int a, .int b => decide (a = b)
  | .str a, .str b => decide (a = b)
  | _, _ => false
def isConst (d : D) : Const → Bool
  | .none => flatEq d .non
  | .bool b => flatEq d (.bl b)
  | .int i => flatEq d (.int i)
  | .str s => flatEq d (.str s) && PyData.strOk s
  | _ => false
def kConst (cc : CC) (d : D) : Expr → Bool
  | .Constant c _ _ => isConst d c
  | .Name x _ => cc.gl x && !(x == ("__debug__" : Str)) && (match cc.pi.con.lookup x with
    | some d' => flatEq d d'
    | none => false)
  | _ => false
def callOf : Expr → Option (Str × List Expr)
  | .Call (.Name x _) es [] _ => some (x, es)
  | _ => none
/-- what a loop's source evaluates -/
def itArgs (cc : CC) (k : ItK) (n : Nat) (tg e : Expr) : Option (List Expr) := match k with
  | .val => if n = 1 then some [e] else none
  | .range => match e with
    | .Call (.Name x _) es [] _ => if x = "range" ∧ cc.blt x = true ∧ es.length = n ∧ 1 ≤ n ∧ n ≤ 3 then some es else none
    | _ => none
  | .enum => match e with
    | .Call (.Name x _) es [] _ => match tg with
      | .Tuple _ _ _ => if x = "enumerate" ∧ cc.blt x = true ∧ es.length = n ∧ n = 1 then some es else none
      | _ => none
    | _ => none
  | .zip => match e with
    | .Call (.Name x _) es [] _ => match tg with
      | .Tuple _ _ _ => if x = "zip" ∧ cc.blt x = true ∧ es.length = n ∧ n = 2 then some es else none
      | _ => none
    | _ => none
  | .keys => none
  | .rev => match e with
    | .Call (.Name x _) es [] _ => if x = "reversed" ∧ cc.blt x = true ∧ es.length = n ∧ n = 1 then some es else none
    | _ => none
mutual
def kG (cc : CC) : Tg → Expr → Bool
  | .nm i, e => match e with
    | .Name x _ => decide (cc.N[i]? = some x) && (decide (cc.sc.names.lookup x = some .local) || (cc.top && decide (cc.sc.names.lookup x = some .cell)))
    | _ => false
  | .tp ts, e => match e with
    | .Tuple es _ _ => !cc.hot && kGs cc ts es
    | _ => false
  | .tl _, _ => false
def kGs (cc : CC) : List Tg → List Expr → Bool
  | [], [] => true
  | t :: ts, e :: es => !Expr.star e && kG cc t e && kGs cc ts es
  | _, _ => false
end
/-- a target of a walk -/
def kGO (cc : CC) (t : Tg) (e : Expr) : Bool := match t with
  | .tl ts => (match e with
    | .Tuple es _ _ => !cc.hot && kGs cc ts es
    | _ => false)
  | t => kG cc t e
def ownOf (N : List Str) (vs : List Nat) : List (Str × Nat) := vs.map fun i => (N.getD i "", i)
def blkB (N : List Str) (sc scope : Scope) (own : List (Str × Nat)) : Bool :=
  decide (scope.kind = .function) && decide (∀ y ∈ scope.names, scope.names.lookup y.1 = some y.2) && decide (∀ p ∈ own, N[p.2]? = some p.1) &&
  decide (∀ y ∈ scope.names, y.2 = .free → sc.names.lookup y.1 = some .cell ∨ sc.names.lookup y.1 = some .free) &&
  decide (∀ y ∈ scope.names, y.2 = .local ∨ y.2 = .cell → y.1 ∈ own.map (·.1) ∨ y.1 ∉ N)
def CC.inner (cc : CC) (scope : Scope) : CC := { cc with sc := relS scope cc.sc, top := false, hot := false }
/-- an error class by its name -/
def CC.xcl (cc : CC) (c : Nat) : Expr → Bool
  | .Name y _ => cc.gl y && !(y == ("__debug__" : Str)) && decide (cc.pi.exc.lookup y = some c)
  | _ => false
def CC.xcls (cc : CC) : List Nat → List Expr → Bool
  | [], [] => true
  | c :: cs, y :: ys => cc.xcl c y && cc.xcls cs ys
  | _, _ => false
def notSetIt : Expr → Bool := notSet
def subSl : Option Expr → Nat → Bool
  | none, n => n == 0
  | some _, n => n == 1

mutual
def kE : CC → Md → E → Expr → Bool
  | cc, md, .c d, e => okT md e && kConst cc d e
  | cc, md, .v i, e => okT md e && (match e with
    | .Name x _ => cc.var i x
    | _ => false)
  | cc, md, .b i, e => (match md with
    | .b => true
    | _ => false) && (match e with
    | .Name x _ => cc.var i x
    | _ => false)
  | cc, md, .w i, e => (match md with
    | .n => true
    | _ => false) && (match e with
    | .Name x _ => cc.var i x
    | _ => false)
  | cc, md, .tup is, e => okT md e && (match e with
    | .Tuple es _ _ => decide (es.length ≤ 1000) && kEs cc .v is es
    | _ => false)
  | cc, md, .lst is, e => okT md e && (match e with
    | .List es _ => decide (es.length ≤ 1000) && kEs cc .v is es
    | _ => false)
  | cc, md, .dct is, e => okT md e && (match e with
    | .Dict ks vs _ => ks.all (·.isSome) && decide (ks.length = vs.length) && decide (ks.length ≤ 15) && kPrs cc is ks vs
    | _ => false)
  | cc, md, .box i, e => okT md e && kE cc .v i e
  | cc, md, .bin o a b, e => okT md e && (match e with
    | .BinOp ea op eb _ => decide (op = bopO o) && kE cc .b a ea && kE cc .b b eb
    | _ => false)
  | cc, md, .neg a, e => okT md e && (match e with
    | .UnaryOp .USub ea _ => kE cc .b a ea
    | _ => false)
  | cc, md, .not a, e => (match e with
    | .UnaryOp .Not ea _ => kE cc md.q a ea
    | _ => false)
  | cc, md, .cmp o a b, e => (match e with
    | .Compare ea ops ebs _ => match ebs with
      | [eb] => decide (ops = [copO o]) && notSet eb && kE cc .b a ea && kE cc .b b eb
      | _ => false
    | _ => false)
  | cc, md, .chain o o' a b c, e => (match e with
    | .Compare ea ops ebs _ => match ebs with
      | [eb, ec] => decide (ops = [copO o, copO o']) && notSet ec && kE cc .b a ea && kE cc .b b eb && kE cc .b c ec
      | _ => false
    | _ => false)
  | cc, md, .and a b, e => (match e with
    | .BoolOp .And es pos => match es with
      | [ea, eb] => kE cc md.q a ea && kE cc md.q b eb
      | ea :: eb :: ec :: rest => kE cc md.q a ea && kE cc md.q b (.BoolOp .And (eb :: ec :: rest) pos)
      | _ => false
    | _ => false)
  | cc, md, .or a b, e => (match e with
    | .BoolOp .Or es pos => match es with
      | [ea, eb] => kE cc md.q a ea && kE cc md.q b eb
      | ea :: eb :: ec :: rest => kE cc md.q a ea && kE cc md.q b (.BoolOp .Or (eb :: ec :: rest) pos)
      | _ => false
    | _ => false)
  | cc, md, .ite c a b, e => okT md e && (match e with
    | .IfExp ec ea eb _ => kE cc .t c ec && kE cc .v a ea && kE cc .v b eb
    | _ => false)
  | cc, md, .ix a i, e => okT md e && (match e with
    | .Subscript ea ei _ => !Expr.slice ei && kE cc .b a ea && kE cc .b i ei
    | _ => false)
  | cc, md, .sl a lo hi, e => okT md e && (match e with
    | .Subscript ea (.Slice l h none _) _ => kE cc .b a ea && kEs cc .b lo l.toList && kEs cc .b hi h.toList
    | _ => false)
  | cc, md, .rev a, e => okT md e && (match e with
    | .Subscript ea (.Slice none none (some (.UnaryOp .USub (.Constant (.int i) _ _) _)) _) _ => decide (i = 1) && kE cc .b a ea
    | .Call (.Name x _) [.Call (.Name y _) [ea] [] _] [] _ => !cc.hot && decide (x = "list") && decide (y = "reversed") && cc.blt x && cc.blt y && !Expr.star ea && kE cc .b a ea
    | _ => false)
  | cc, md, .fld a f, e => okT md e && (match e with
    | .Attribute ea x _ => decide (x = f) && baseOk ea && kE cc .b a ea
    | _ => false)
  | cc, md, .call f is, e => okT md e && (match e with
    | .Call (.Name x _) es [] _ => !cc.hot && cc.gl x && !(x == ("__debug__" : Str)) && (match cc.pi.fns.lookup x with
      | some (i, bs) => decide (i = f) && kAs cc bs is es
      | none => false)
    | _ => false)
  | cc, md, .mk c f is, e => okT md e && (match e with
    | .Call (.Name x _) es [] _ => !cc.hot && cc.gl x && !(x == ("__debug__" : Str)) && (match cc.pi.mks.lookup x with
      | some (c', i, bs) => decide (c' = c) && decide (i = f) && kAs cc bs is es
      | none => false)
    | _ => false)
  | cc, md, .om c m f o is, e => okT md e && (match e with
    | .Call (.Attribute eo x ap) es [] cp => !cc.hot && decide (x = m) && baseOk eo && decide (es.length < 30) && (ap.endLine == cp.line) && kE cc .b o eo && (match cc.pi.mt c m with
      | some (i, bs) => decide (i = f) && kAs cc bs is es
      | none => false)
    | _ => false)
  | cc, md, .get o k d, e => okT md e && (match e with
    | .Call (.Attribute eo x ap) [ek, ed] [] cp => decide (x = "get") && baseOk eo && !Expr.star ek && !Expr.star ed && (ap.endLine == cp.line) && kE cc .b o eo && kE cc .b k ek && kE cc .v d ed
    | _ => false)
  | cc, md, .popD o k d, e => okT md e && (match e with
    | .Call (.Attribute eo x ap) [ek, ed] [] cp => decide (x = "pop") && baseOk eo && !Expr.star ek && !Expr.star ed && (ap.endLine == cp.line) && kE cc .b o eo && kE cc .b k ek && kE cc .v d ed
    | _ => false)
  | cc, md, .isx i cs, e => okT md e && (match e with
    | .Call (.Name f _) [.Name x _, y] [] _ => cc.hot && decide (f = "isinstance") && cc.blt f && cc.var i x && (match y with
      | .Tuple ys _ _ => decide (cs.length ≤ 1000) && cc.xcls cs ys
      | .Name y p => match cs with
        | [c] => cc.xcl c (.Name y p) || (decide (y = "ValueError") && cc.blt y && decide (c = cc.pi.ve))
        | _ => false
      | _ => false)
    | _ => false)
  | cc, md, .xpl i, e => okT md e && (match e with
    | .Attribute (.Name x _) f _ => cc.hot && decide (f = "place") && cc.var i x
    | _ => false)
  | cc, md, .meth m o is, e => okT md e && (match e with
    | .Call (.Attribute eo x ap) (e0 :: es) [] cp => decide (x = mtName m) && baseOk eo && decide ((e0 :: es).length < 30) && (ap.endLine == cp.line) && kE cc .b o eo && kEs cc .b is (e0 :: es)
    | _ => false)
  | cc, md, .fn f is, e => okT md e && (match e with
    | .Call (.Name x _) (e0 :: es) [] _ => !cc.hot && decide (f ≠ .sset) && decide (x = fnName f) && cc.blt x && kEs cc .b is (e0 :: es)
    | _ => false)
  | cc, md, .isi i ts, e => okT md e && (match e with
    | .Call (.Name x _) [e0, .Name y _] [] _ => decide (x = "isinstance") && cc.blt x && cc.blt y && (match ts with
      | [t] => match tyName t with
        | some m => decide (bootBuiltins y = some (.type m)) && !(y == ("__name__" : Str)) && !(y == ("__debug__" : Str))
        | none => false
      | _ => false) && !Expr.star e0 && kE cc .b i e0
    | _ => false)
  | cc, md, .comp elt tg k src [], e => okT md e && (match e with
    | .ListComp eelt gens scope _ => match gens with
      | [⟨etg, eit, ifs, asy⟩] => !cc.hot && decide (asy = 0) && ifs.isEmpty && notSet eit && blkB cc.N cc.sc scope (ownOf cc.N tg.slots) && kG (cc.inner scope) tg etg && kE (cc.inner scope) .v elt eelt &&
        (match itArgs cc k src.length etg eit with
        | some es => kEs cc .b src es
        | none => false)
      | _ => false
    | _ => false)
  | cc, md, .comp elt tg k src (c :: cs), e => okT md e && (match e with
    | .ListComp eelt gens scope _ => match gens with
      | [⟨etg, eit, ifs, asy⟩] => !cc.hot && decide (asy = 0) && notSet eit && blkB cc.N cc.sc scope (ownOf cc.N tg.slots) && kG (cc.inner scope) tg etg && kE (cc.inner scope) .v elt eelt &&
        (match ifs with
        | [ec] => kE (cc.inner scope) .t c ec
        | _ => false) &&
        (match itArgs cc k src.length etg eit with
        | some es => kEs cc .b src es
        | none => false)
      | _ => false
    | _ => false)
def kEs : CC → Md → List E → List Expr → Bool
  | _, _, [], [] => true
  | cc, md, i :: is, e :: es => !Expr.star e && kE cc md i e && kEs cc md is es
  | _, _, _, _ => false
/-- arguments: borrowed or handed over -/
def kAs : CC → List Bool → List E → List Expr → Bool
  | _, [], [], [] => true
  | cc, true :: bs, i :: is, e :: es => !Expr.star e && kE cc .b i e && kAs cc bs is es
  | cc, false :: bs, i :: is, e :: es => !Expr.star e && kE cc .v i e && kAs cc bs is es
  | _, _, _, _ => false
def kPrs : CC → List E → List (Option Expr) → List Expr → Bool
  | _, [], [], [] => true
  | cc, ik :: iv :: is, some k :: ks, v :: vs => kE cc .v ik k && kE cc .v iv v && kPrs cc is ks vs
  | _, _, _, _ => false
end
end Vi

namespace Vi
open PySem L2

structure Good (w : Wd) (xr : Nat → Option Addr → V → Prop) (X : Cx) (W : WX) (cf : CF) (cc : CC) (lv : Nat) : Prop where
  hN : X.N = cc.N
  nd : cc.N.Nodup
  m : cc.N.length = w.m
  sc : X.env.scope = cc.sc
  calm : cc.hot = false → X.calm = true
  top : cc.top = true → ∀ x, X.fn x = true
  fns : ∀ x i bs, cc.pi.fns.lookup x = some (i, bs) → ∃ fa fd ps, FnOk X.prog X.w X.K X.mg X.base (L2.CX X.prog X.w) lv fa fd ps (spR w.cad bs (cf.call i)) ∧ X.mg x = some (.ref fa) ∧ PySem.W.keepIn X.K (.ref fa) = true ∧ Binds X.K fd ps []
  room : cc.hot = false → Room lv X.A
  un : X.A.units + 64 < cLine
  lve : cf.lv = lv
  free : ∀ x ∈ cc.pi.free, X.mg x = none
  con : ∀ x d, cc.pi.con.lookup x = some d → ∃ u v, X.mg x = some u ∧ RelV v u ∧ ∀ F al, Rp F al d v
  tk : Takes X W
  cls : ClsOk X.K w.cad cf.fok
  mks : ∀ x c i bs, cc.pi.mks.lookup x = some (c, i, bs) → cc.hot = false → ∃ lv' fa fd ps, FnOk X.prog X.w X.K X.mg X.base (L2.CX X.prog X.w) lv' fa fd ps (spR w.cad (false :: bs) (cf.init i)) ∧ (Room (lv' + 1) X.A ∨ ∀ vs H Q E, ¬ spR w.cad (false :: bs) (cf.init i) vs H Q E) ∧ X.mg x = some (.ref (w.cad c)) ∧ Mk X.K (w.cad c) fa ∧ Binds X.K fd ps []
  mth : ∀ c m i bs, cc.pi.mt c m = some (i, bs) → ∃ fa fd ps, FnOk X.prog X.w X.K X.mg X.base (L2.CX X.prog X.w) lv fa fd ps (spR w.cad (false :: bs) (cf.call i)) ∧ Cls X.K (w.cad c) ∧ Meth X.K (w.cad c) m fa ∧ Binds X.K fd ps []
  exs : ∀ x c, cc.pi.exs.lookup x = some c → X.mg x = some (.ref (w.cad c)) ∧ ExOk X.K (w.cad c)
  exi : ∀ x c, cc.pi.exi.lookup x = some c → X.mg x = some (.ref (w.cad c)) ∧ ∃ fI fd, OexC X.K (w.cad c) ∧ PySem.W.findIn X.K (.ref (w.cad c)) "__init__" = some (some (.ref fI)) ∧ PySem.W.typeIn X.K (.ref fI) = some (.type "function") ∧ FnOk X.prog X.w X.K X.mg X.base (L2.CX X.prog X.w) 1 fI fd ["self", "place"] (spExi (w.cad c)) ∧ Binds X.K fd ["self", "place"] []
  exc : ∀ x c, cc.pi.exc.lookup x = some c → X.mg x = some (.ref (w.cad c)) ∧ (∀ c', cf.sub c' c' = true → PySem.W.exmOne X.K (.ref (w.cad c')) (.ref (w.cad c)) = some (cf.sub c' c)) ∧ ∀ c', cf.sub c' c' = true → PySem.W.kitOne X.K (.ref (w.cad c')) (.ref (w.cad c)) = some (cf.sub c' c)
  exv : ("ValueError" : Str) ∈ cc.pi.free → ∀ c', cf.sub c' c' = true → PySem.W.kitOne X.K (.ref (w.cad c')) (.type "ValueError") = some (cf.sub c' cc.pi.ve)
  xcf : ∀ c', cf.sub c' c' = true → PySem.W.XcF X.K (w.cad c') ∧ XfC X.K (w.cad c') ∧ PySem.W.findIn X.K (.ref (w.cad c')) "place" = some none
  hx : cc.hot = true → ∃ X0 a oe cls d pn, X = Cx.suite X0 a ((a, oe) :: pn) ∧ Zc cls d oe ∧ (∃ vs, oe.data = .fields vs) ∧ xr = xrOf w.cad a cls d
def SndW (w : Wd) (xr : Nat → Option Addr → V → Prop) (X : Cx) (W : WX) (e : Expr) (f : Z → R Z (D × Bool)) : Prop :=
  ∃ t, PW X e t ∧ ∀ b g z σ H Q, Sim w xr b g z σ H → PostT w xr W b g σ H Q (f z) → t σ H Q
def SndM (w : Wd) (xr : Nat → Option Addr → V → Prop) (X : Cx) (W : WX) (cf : CF) (e : Expr) (i : E) : Md → Prop
  | .v => SndE w xr X W e (evalE cf i)
  | .b => SndB w xr X W e fun z => fst1 (evalE cf i z)
  | .n => SndN w xr X W e fun z => fst1 (evalE cf i z)
  | .t => SndT w xr X W e (evalE cf i) ∧ ∀ op es pos, e = .BoolOp op es pos → SndW w xr X W e (evalE cf i)
def SndL (w : Wd) (xr : Nat → Option Addr → V → Prop) (X : Cx) (W : WX) (cf : CF) (es : List Expr) (is : List E) : Md → Prop
  | .v => SndAF w xr X W es (evalEs cf is)
  | .b => SndA w xr X W es (evalEs cf is) ∧ ∀ i e, is = [i] → es = [e] → SndB w xr X W e fun z => fst1 (evalE cf i z)
  | .n => SndAN w xr X W es (evalEs cf is) ∧ ∀ i e, is = [i] → es = [e] → SndN w xr X W e fun z => fst1 (evalE cf i z)
  | .t => True

section
variable {w : Wd} {xr : Nat → Option Addr → V → Prop} {X : Cx} {W : WX} {cf : CF} {cc : CC} {lv : Nat} {e : Expr} {i : E}
theorem Good.units (G : Good w xr X W cf cc lv) : X.A.units + 64 < cLine := G.un
theorem Good.inner (G : Good w xr X W cf cc lv) (hh : cc.hot = false) (scope : Scope) (c : BC) : Good w xr (blkOf X scope c) W0 cf (cc.inner scope) lv where
  hN := G.hN
  nd := G.nd
  m := G.m
  sc := by
    show relabel scope X.env = relS scope cc.sc
    rw [← G.sc]; rfl
  calm := fun _ => G.calm hh
  top := fun h => by cases h
  fns := G.fns
  room := fun _ => G.room hh
  un := G.un
  lve := G.lve
  free := G.free
  con := G.con
  tk := takes0
  cls := G.cls
  mks := fun x c i bs h _ => G.mks x c i bs h hh
  mth := G.mth
  exs := G.exs
  exi := G.exi
  exc := G.exc
  exv := G.exv
  xcf := G.xcf
  hx := fun q => by cases q
theorem plainT_true (env : Env) (h : plainT e = true) : ∀ whole, isTrue e env whole = (do let v ← whole; standAt e.pos; holding [v] (truthy v)) := by
  cases e <;> first | (simp [plainT] at h; done) | (intro whole; rfl)
theorem fin_md {md : Md} (h : okT md e = true) (s : SndE w xr X W e (evalE cf i)) : SndM w xr X W cf e i md := by
  cases md with
  | v => exact s
  | b => exact s.B
  | n => exact s.F.N
  | t =>
    refine ⟨s.T (plainT_true _ h), fun op es pos he => ?_⟩
    subst he; simp [okT, plainT] at h
theorem fin_cmp {md : Md} (hb : ∀ op es pos, e ≠ .BoolOp op es pos) (s : SndP w xr W (fun t => PE X e t ∧ PT X e (tTest t)) (evalE cf i)) : SndM w xr X W cf e i md := by
  cases md with
  | v => exact s.E
  | b => exact s.E.B
  | n => exact s.E.F.N
  | t => exact ⟨s.T, fun op es pos he => absurd he (hb _ _ _)⟩
theorem var_ok (G : Good w xr X W cf cc lv) {n : Nat} {x : Str} (h : cc.var n x = true) : X.N[n]? = some x ∧ Vis X.env.scope x ∧ (x == ("__debug__" : Str)) = false ∧ (x == ("__classdict__" : Str)) = false := by
  unfold CC.var at h
  simp only [Bool.and_eq_true, decide_eq_true_eq, Bool.not_eq_true'] at h
  obtain ⟨⟨⟨h1, h2⟩, h3⟩, h4⟩ := h
  refine ⟨by rw [G.hN]; exact h1, ?_, h3, h4⟩
  unfold Vis
  rw [G.sc]
  unfold seen at h2
  split at h2 <;> first | (rename_i q; rw [q]; simp; done) | cases h2
theorem gl_ok (G : Good w xr X W cf cc lv) {x : Str} (h : cc.gl x = true) : Gl X x := by
  unfold CC.gl at h
  unfold Gl Env.kindOf
  rw [G.sc]
  exact of_decide_eq_true h
theorem blt_ok (G : Good w xr X W cf cc lv) {x : Str} (h : cc.blt x = true) : Gl X x ∧ X.mg x = none := by
  unfold CC.blt at h
  simp only [Bool.and_eq_true, decide_eq_true_eq] at h
  exact ⟨gl_ok G h.1, G.free _ h.2⟩
theorem flatEq_eq {a b : D} (h : flatEq a b = true) : a = b := by
  unfold flatEq at h
  split at h <;> simp_all
theorem const_ok (G : Good w xr X W cf cc lv) {d : D} (h : kConst cc d e = true) : SndE w xr X W e (evalE cf (.c d)) := by
  have ev : (evalE cf (.c d)) = fun z => .ok (d, false) z := by funext z; simp only [evalE]
  rw [ev]
  unfold kConst at h
  split at h
  · unfold isConst at h
    split at h
    · rw [flatEq_eq h]; exact s_c pe_non rp_non
    · rw [flatEq_eq h]; exact s_c pe_bl rp_bl
    · rw [flatEq_eq h]; exact s_c pe_int rp_int
    · simp only [Bool.and_eq_true] at h
      rw [flatEq_eq h.1]; exact s_c pe_str (rp_str h.2)
    · cases h
  · simp only [Bool.and_eq_true, Bool.not_eq_true'] at h
    obtain ⟨⟨h1, h2⟩, h3⟩ := h
    split at h3
    · rename_i d' hd
      rw [flatEq_eq h3]
      obtain ⟨u, v, e1, e2, e3⟩ := G.con _ _ hd
      exact s_c (pe_glob (gl_ok G h1) e1 e2 h2) e3
    · cases h3
  · cases h
theorem notSet_ok (h : notSet e = true) (op : CmpOp) : behindInMarks op e = false := nomarks e (fun es k p q => by subst q; simp [notSet] at h) op
theorem notSet_it (h : notSet e = true) (env : Env) : ∀ x, foldedSetIterable e env x = pure x := by
  intro x
  cases e <;> first | rfl | (simp [notSet] at h)
theorem one_star (h : Expr.star e = false) (env : Env) : starEach [e] env = [(false, eval e env)] := by
  rw [star_ok h]; rfl

mutual
theorem kG_ok (G : Good w xr X W cf cc lv) : ∀ (t : Tg) (e : Expr), kG cc t e = true → SndG w xr X e t
  | .nm i, e, h => by
    simp only [kG] at h
    split at h
    · rename_i x p
      simp only [Bool.and_eq_true, Bool.or_eq_true, decide_eq_true_eq] at h
      obtain ⟨h1, h2⟩ := h
      have hm : X.N.length = w.m := by rw [G.hN]; exact G.m
      have hN : X.N.Nodup := by rw [G.hN]; exact G.nd
      have hi : X.N[i]? = some x := by rw [G.hN]; exact h1
      rcases h2 with h2 | ⟨h2, h3⟩
      · exact g_nm hm hN hi (.inl (by rw [G.sc]; exact h2)) (.inr (by rw [G.sc]; exact h2))
      · exact g_nm hm hN hi (.inr (by rw [G.sc]; exact h3)) (.inl (G.top h2 x))
    · cases h
  | .tp ts, e, h => by
    simp only [kG] at h
    split at h
    · rename_i es k p
      rw [Bool.and_eq_true, Bool.not_eq_true'] at h
      obtain ⟨h1, h2, h3⟩ := kGs_ok G ts es h.2
      exact g_tp (G.calm h.1) h2 h3 h1
    · cases h
  | .tl ts, e, h => by simp [kG] at h
theorem kGs_ok (G : Good w xr X W cf cc lv) : ∀ (ts : List Tg) (es : List Expr), kGs cc ts es = true → SndGs w xr X es ts ∧ (assignEach es X.env).length = ts.length ∧ (assignEach es X.env).findIdx? (·.1) = none
  | [], [], h => ⟨gs_nil, rfl, rfl⟩
  | [], e :: es, h => by simp [kGs] at h
  | t :: ts, [], h => by simp [kGs] at h
  | t :: ts, e :: es, h => by
    simp only [kGs, Bool.and_eq_true, Bool.not_eq_true'] at h
    obtain ⟨⟨h1, h2⟩, h3⟩ := h
    have a1 := kG_ok G t e h2
    obtain ⟨b1, b2, b3⟩ := kGs_ok G ts es h3
    have e1 : assignEach (e :: es) X.env = (false, assign e X.env) :: assignEach es X.env := by
      cases e <;> first | rfl | (simp [Expr.star] at h1)
    refine ⟨gs_cons (by rw [e1]; rfl) a1 b1, by rw [e1]; simp [b2], ?_⟩
    rw [e1, List.findIdx?_cons]
    simp [b3]
end
theorem kGO_ok (G : Good w xr X W cf cc lv) (t : Tg) (e : Expr) (h : kGO cc t e = true) : SndGO w xr X e t := by
  cases t with
  | nm i => exact go_of (fun ts q => by cases q) (kG_ok G (.nm i) e h)
  | tp ts => exact go_of (fun ts q => by cases q) (kG_ok G (.tp ts) e h)
  | tl ts =>
    simp only [kGO] at h
    split at h
    · rename_i es k p
      rw [Bool.and_eq_true, Bool.not_eq_true'] at h
      obtain ⟨h1, h2, h3⟩ := kGs_ok G ts es h.2
      exact go_tl (G.calm h.1) h2 h3 h1
    · cases h
end
end Vi

namespace Vi
open PySem L2

section
variable {w : Wd} {xr : Nat → Option Addr → V → Prop} {X : Cx} {W : WX} {cf : CF} {cc : CC} {lv : Nat} {e : Expr} {i : E}
theorem blk_ok {N : List Str} {sc scope : Scope} {own : List (Str × Nat)} (h : blkB N sc scope own = true) : BlkOk N sc scope own := by
  unfold blkB at h
  simp only [Bool.and_eq_true, decide_eq_true_eq] at h
  obtain ⟨⟨⟨⟨h1, h2⟩, h3⟩, h4⟩, h5⟩ := h
  exact ⟨h1, h2, h3, h4, h5⟩
theorem own_snd (N : List Str) (vs : List Nat) : (ownOf N vs).map (·.2) = vs := by
  unfold ownOf
  rw [List.map_map]
  exact List.map_id' vs
theorem pa_stars {X : Cx} (es : List Expr) (h : ∀ e ∈ es, Expr.star e = false) : es.all (fun e => !Expr.star e) = true := by
  rw [List.all_eq_true]
  intro e he
  rw [h e he]; rfl
theorem it_call (G : Good w xr X W cf cc lv) {k : ItK} {tg eit : Expr} {es : List Expr} {src : List E} (hk : k ≠ .val) (h : itArgs cc k src.length tg eit = some es) (hs : ∀ e ∈ es, Expr.star e = false) :
    ∃ r : List V → Hp → (It → Hp → Prop) → Prop, (∀ ta, PA X es ta → PI X tg eit (fun σ H N => ta σ H fun vs H1 => r vs H1 N)) ∧
      (∀ b g z σ H N ds xs vs, ds.length = src.length → Sim w xr b g z σ H → Rbs w g H ds vs → srcOf z.os k ds = some xs → N (Jof X.K k ds vs xs.length) H → r vs H N) := by
  unfold itArgs at h
  split at h
  · exact absurd rfl hk
  · split at h
    · rename_i x p es' pos
      split at h
      · rename_i hc
        cases h
        obtain ⟨rfl, hb, hlen, h1, h3⟩ := hc
        obtain ⟨gx, mx⟩ := blt_ok G hb
        match es, hlen with
        | [a], hlen =>
          have hs1 : src.length = 1 := hlen.symm
          exact ⟨rRng1, fun ta pa => pi_range1 gx mx pa (one_star (hs a (by simp)) _), fun b g z σ H N ds xs vs hl => hr_rng1 b g z σ H N ds xs vs (hl.trans hs1)⟩
        | [a, c], hlen =>
          have hs1 : src.length = 2 := hlen.symm
          exact ⟨rRng2, fun ta pa => pi_range2 gx mx pa (by rw [star_ok (hs a (by simp)), one_star (hs c (by simp))]) (one_star (hs c (by simp)) _), fun b g z σ H N ds xs vs hl => hr_rng2 b g z σ H N ds xs vs (hl.trans hs1)⟩
        | [a, c, d], hlen =>
          have hs1 : src.length = 3 := hlen.symm
          exact ⟨rRng3, fun ta pa => pi_range3 gx mx pa (star_ok (hs a (by simp)) _ _) (star_any _ _ _ (pa_stars (X := X) [c, d] fun e he => hs e (List.mem_cons_of_mem _ he))), fun b g z σ H N ds xs vs hl => hr_rng3 b g z σ H N ds xs vs (hl.trans hs1)⟩
        | [], hlen => rw [← hlen] at h1; exact absurd h1 (by decide)
        | _ :: _ :: _ :: _ :: _, hlen => rw [← hlen] at h3; simp at h3
      · cases h
    · cases h
  · split at h
    · rename_i x p es' pos
      split at h
      · split at h
        · rename_i hc
          cases h
          obtain ⟨rfl, hb, hlen, h1⟩ := hc
          obtain ⟨gx, mx⟩ := blt_ok G hb
          match es, hlen with
          | [a], hlen => exact ⟨rEnum X.K, fun ta pa => pi_enum gx mx pa (one_star (hs a (by simp)) _), fun b g z σ H N ds xs vs hl => hr_enum b g z σ H N ds xs vs (hl.trans h1)⟩
          | [], hlen => rw [h1] at hlen; cases hlen
          | _ :: _ :: _, hlen => rw [h1] at hlen; simp at hlen
        · cases h
      · cases h
    · cases h
  · split at h
    · rename_i x p es' pos
      split at h
      · split at h
        · rename_i hc
          cases h
          obtain ⟨rfl, hb, hlen, h1⟩ := hc
          obtain ⟨gx, mx⟩ := blt_ok G hb
          match es, hlen with
          | [a, c], hlen => exact ⟨rZip X.K, fun ta pa => pi_zip gx mx pa (star_ok (hs a (by simp)) _ _) (star_any _ _ _ (pa_stars (X := X) [c] fun e he => hs e (List.mem_cons_of_mem _ he))), fun b g z σ H N ds xs vs hl => hr_zip b g z σ H N ds xs vs (hl.trans h1)⟩
          | [], hlen => rw [h1] at hlen; cases hlen
          | [_], hlen => rw [h1] at hlen; cases hlen
          | _ :: _ :: _ :: _, hlen => rw [h1] at hlen; simp at hlen
        · cases h
      · cases h
    · cases h
  · cases h
  · split at h
    · rename_i x p es' pos
      split at h
      · rename_i hc
        cases h
        obtain ⟨rfl, hb, hlen, h1⟩ := hc
        obtain ⟨gx, mx⟩ := blt_ok G hb
        match es, hlen with
        | [a], hlen => exact ⟨rRevs X.K, fun ta pa => pi_reversed gx mx pa (one_star (hs a (by simp)) _), fun b g z σ H N ds xs vs hl => hr_rev b g z σ H N ds xs vs (hl.trans h1)⟩
        | [], hlen => rw [h1] at hlen; cases hlen
        | _ :: _ :: _, hlen => rw [h1] at hlen; simp at hlen
      · cases h
    · cases h
theorem kEs_len : ∀ (cc : CC) (md : Md) (is : List E) (es : List Expr), kEs cc md is es = true → is.length = es.length ∧ ∀ e ∈ es, Expr.star e = false
  | cc, md, [], [], h => ⟨rfl, fun e he => by cases he⟩
  | cc, md, [], e :: es, h => by simp [kEs] at h
  | cc, md, i :: is, [], h => by simp [kEs] at h
  | cc, md, i :: is, e :: es, h => by
    simp only [kEs, Bool.and_eq_true, Bool.not_eq_true'] at h
    obtain ⟨a, c⟩ := kEs_len cc md is es h.2
    refine ⟨by simp [a], fun e' he => ?_⟩
    rcases List.mem_cons.mp he with rfl | he
    · exact h.1.1
    · exact c e' he
theorem as_v {md : Md} (h : ∀ md', SndM w xr X W cf e i md') : SndM w xr X W cf e i md := h md
theorem SndT.E : True := trivial
theorem pw1_and {ea : Expr} {pos : Pos} {f : Z → R Z (D × Bool)} (h : SndT w xr X W ea f) : SndW w xr X W (.BoolOp .And [ea] pos) f := by
  obtain ⟨t, p, q⟩ := h
  exact ⟨t, pw_and1 p, q⟩
theorem pw1_or {ea : Expr} {pos : Pos} {f : Z → R Z (D × Bool)} (h : SndT w xr X W ea f) : SndW w xr X W (.BoolOp .Or [ea] pos) f := by
  obtain ⟨t, p, q⟩ := h
  exact ⟨t, pw_or1 p, q⟩
theorem SndW.T {f : Z → R Z (D × Bool)} (h : SndW w xr X W e f) : SndT w xr X W e f := by
  obtain ⟨t, p, q⟩ := h
  exact ⟨t, p.pt, q⟩
theorem md_v {md : Md} {f : Prop} : (∀ md, md = Md.v ∨ md = Md.b ∨ md = Md.t ∨ md = Md.n) := fun md => by cases md <;> simp
theorem dlen_ok {is : List E} : ∀ z ds z', evalEs cf is z = .ok ds z' → ds.length = is.length := fun z ds z' h => evalEs_length _ _ _ _ h
end
end Vi

namespace Vi
open PySem L2

theorem and_ok {w : Wd} {xr : Nat → Option Addr → V → Prop} {X : Cx} {W : WX} {cf : CF} {ea eb : Expr} {rest : List Expr} {a b : E} {pos : Pos} {md : Md}
    (ha : SndM w xr X W cf ea a md.q) (hb : SndM w xr X W cf (.BoolOp .And (eb :: rest) pos) b md.q) : SndM w xr X W cf (.BoolOp .And (ea :: eb :: rest) pos) (.and a b) md := by
  cases md with
  | v => exact s_and ha hb
  | b => exact (s_and ha hb).B
  | n => exact (s_and ha hb).F.N
  | t =>
    have := t_and (cf := cf) (ia := a) (ib := b) ha.1 (hb.2 _ _ _ rfl)
    exact ⟨(show SndW w xr X W _ _ from this).T, fun op es pos' he => this⟩
theorem or_ok {w : Wd} {xr : Nat → Option Addr → V → Prop} {X : Cx} {W : WX} {cf : CF} {ea eb : Expr} {rest : List Expr} {a b : E} {pos : Pos} {md : Md}
    (ha : SndM w xr X W cf ea a md.q) (hb : SndM w xr X W cf (.BoolOp .Or (eb :: rest) pos) b md.q) : SndM w xr X W cf (.BoolOp .Or (ea :: eb :: rest) pos) (.or a b) md := by
  cases md with
  | v => exact s_or ha hb
  | b => exact (s_or ha hb).B
  | n => exact (s_or ha hb).F.N
  | t =>
    have := t_or (cf := cf) (ia := a) (ib := b) ha.1 (hb.2 _ _ _ rfl)
    exact ⟨(show SndW w xr X W _ _ from this).T, fun op es pos' he => this⟩
theorem one_and {w : Wd} {xr : Nat → Option Addr → V → Prop} {X : Cx} {W : WX} {cf : CF} {eb : Expr} {b : E} {pos : Pos} {md : Md} (h : SndM w xr X W cf eb b md.q) :
    SndM w xr X W cf (.BoolOp .And [eb] pos) b md.q := by
  cases md with
  | v => exact s_bone h
  | b => exact s_bone h
  | n => exact s_bone h
  | t => exact ⟨(pw1_and h.1).T, fun op es pos' he => by cases he; exact pw1_and h.1⟩
theorem one_or {w : Wd} {xr : Nat → Option Addr → V → Prop} {X : Cx} {W : WX} {cf : CF} {eb : Expr} {b : E} {pos : Pos} {md : Md} (h : SndM w xr X W cf eb b md.q) :
    SndM w xr X W cf (.BoolOp .Or [eb] pos) b md.q := by
  cases md with
  | v => exact s_bone h
  | b => exact s_bone h
  | n => exact s_bone h
  | t => exact ⟨(pw1_or h.1).T, fun op es pos' he => by cases he; exact pw1_or h.1⟩
theorem pe_callS0 {X : Cx} {CX : CXT} {k : Nat} {f : Addr} {fd : FuncData} {ps : List Str} {sp : Sp} {E : St → XK} {x : Str} {p pos : Pos} (F : FnOk X.prog X.w X.K X.mg X.base CX k f fd ps sp) (hr : Room k X.A) (hg : Gl X x) (hm : X.mg x = some (.ref f)) (hk : PySem.W.keepIn X.K (.ref f) = true) (hb : Binds X.K fd ps []) (hx : ∀ σ, PassesAt CX X σ (E σ))
    (hdb : (x == ("__debug__" : Str)) = false) : PE X (.Call (.Name x p) [] [] pos) (tCallS sp E tNil) :=
  ⟨fun pins s σ H Q I h => wpAny_Call_Name_kw (ld_glob I hg hm (PySem.W.callWith_K0 I.kIn hk (run_fnS F hr hb (hx σ) I .nil h)) hdb)⟩
theorem call_ok {w : Wd} {xr : Nat → Option Addr → V → Prop} {X : Cx} {W : WX} {cf : CF} {cc : CC} {lv : Nat} (G : Good w xr X W cf cc lv) (hh : cc.hot = false) {f : Nat} {bs : List Bool} {is : List E} {x : Str} {p pos : Pos} {es : List Expr} (h1 : cc.gl x = true) (h2 : (x == ("__debug__" : Str)) = false) (h3 : cc.pi.fns.lookup x = some (f, bs)) (hl : is.length = es.length) (hb : is.length = bs.length) (hs : ∀ e ∈ es, Expr.star e = false)
    (ha : SndAM w xr X W es bs (evalEs cf is)) : SndE w xr X W (.Call (.Name x p) es [] pos) (evalE cf (.call f is)) := by
  obtain ⟨fa, fd, ps, F, e1, e2, e3⟩ := G.fns _ _ _ h3
  cases es with
  | cons e es => exact s_call G.tk F (G.room hh) (gl_ok G h1) e1 e2 e3 h2 (hs e (by simp)) (pa_stars (X := X) es fun e' he => hs e' (List.mem_cons_of_mem _ he)) hb ha
  | nil =>
    have hn : is = [] := List.length_eq_zero_iff.mp hl
    subst hn
    have hbn : bs = [] := List.length_eq_zero_iff.mp hb.symm
    subst hbn
    refine ⟨_, pe_callS0 F (G.room hh) (gl_ok G h1) e1 e2 e3 (fun σ => passAt G.tk σ) h2, fun b g z σ H Q S k => ?_⟩
    simp only [evalE, evalEs, R.bind_ok] at k
    exact call_hr S (show Rms g H [] [] [] from rfl) rfl k
theorem mk_ok {w : Wd} {xr : Nat → Option Addr → V → Prop} {X : Cx} {W : WX} {cf : CF} {cc : CC} {lv : Nat} (G : Good w xr X W cf cc lv) (hh : cc.hot = false) {c f : Nat} {bs : List Bool} {is : List E} {x : Str} {p pos : Pos} {es : List Expr} (h1 : cc.gl x = true) (h2 : (x == ("__debug__" : Str)) = false) (h3 : cc.pi.mks.lookup x = some (c, f, bs)) (hl : is.length = es.length) (hb : is.length = bs.length) (hs : ∀ e ∈ es, Expr.star e = false)
    (ha : SndAM w xr X W es bs (evalEs cf is)) : SndE w xr X W (.Call (.Name x p) es [] pos) (evalE cf (.mk c f is)) := by
  obtain ⟨lv', fa, fd, ps, F, hr, e1, e2, e3⟩ := G.mks _ _ _ _ h3 hh
  cases es with
  | cons e es => exact s_mk G.tk e2 F hr (gl_ok G h1) e1 e3 h2 (hs e (by simp)) (pa_stars (X := X) es fun e' he => hs e' (List.mem_cons_of_mem _ he)) hb ha
  | nil =>
    have hn : is = [] := List.length_eq_zero_iff.mp hl
    subst hn
    have hbn : bs = [] := List.length_eq_zero_iff.mp hb.symm
    subst hbn
    exact s_mk0 G.tk e2 F hr (gl_ok G h1) e1 e3 h2
theorem om_ok {w : Wd} {xr : Nat → Option Addr → V → Prop} {X : Cx} {W : WX} {cf : CF} {cc : CC} {lv : Nat} (G : Good w xr X W cf cc lv) (hh : cc.hot = false) {c f : Nat} {bs : List Bool} {io : E} {is : List E} {m : Str} {o : Expr} {ap pos : Pos} {es : List Expr} (h1 : baseOk o = true) (h2 : es.length < 30) (h3 : cc.pi.mt c m = some (f, bs)) (h4 : (ap.endLine == pos.line) = true) (hl : is.length = es.length) (hb : is.length = bs.length) (hs : ∀ e ∈ es, Expr.star e = false)
    (ho : SndB w xr X W o fun z => fst1 (evalE cf io z)) (ha : SndAM w xr X W es bs (evalEs cf is)) : SndE w xr X W (.Call (.Attribute o m ap) es [] pos) (evalE cf (.om c m f io is)) := by
  obtain ⟨fa, fd, ps, F, e1, e2, e3⟩ := G.mth _ _ _ _ h3
  cases es with
  | cons e es => exact s_om G.tk e1 e2 F (G.room hh) e3 h1 (hs e (by simp)) (pa_stars (X := X) es fun e' he => hs e' (List.mem_cons_of_mem _ he)) h2 h4 hb ho ha
  | nil =>
    have hn : is = [] := List.length_eq_zero_iff.mp hl
    subst hn
    have hbn : bs = [] := List.length_eq_zero_iff.mp hb.symm
    subst hbn
    exact s_om0 G.tk e1 e2 F (G.room hh) e3 h1 h4 ho
theorem kAs_len : ∀ (cc : CC) (bs : List Bool) (is : List E) (es : List Expr), kAs cc bs is es = true → is.length = es.length ∧ is.length = bs.length ∧ ∀ e ∈ es, Expr.star e = false
  | cc, [], [], [], h => ⟨rfl, rfl, fun e he => by cases he⟩
  | cc, [], [], e :: es, h => by simp [kAs] at h
  | cc, [], i :: is, es, h => by simp [kAs] at h
  | cc, b :: bs, [], es, h => by cases b <;> simp [kAs] at h
  | cc, b :: bs, i :: is, [], h => by cases b <;> simp [kAs] at h
  | cc, b :: bs, i :: is, e :: es, h => by
    have h' : Expr.star e = false ∧ kAs cc bs is es = true := by
      cases b <;> (simp only [kAs, Bool.and_eq_true, Bool.not_eq_true'] at h; exact ⟨h.1.1, h.2⟩)
    obtain ⟨a, c, d⟩ := kAs_len cc bs is es h'.2
    refine ⟨by simp [a], by simp [c], fun e' he => ?_⟩
    rcases List.mem_cons.mp he with rfl | he
    · exact h'.1
    · exact d e' he
theorem comp_ok {w : Wd} {xr : Nat → Option Addr → V → Prop} {X : Cx} {W : WX} {cf : CF} {cc : CC} {lv : Nat} (G : Good w xr X W cf cc lv) (hh : cc.hot = false) {k : ItK} {tg : Tg} {src : List E} {elt : E} {eelt etg eit : Expr} {ifs : List Expr} {scope : Scope} {pos : Pos} {es : List Expr} {fc : Z → R Z (D × Bool)}
    (hn : notSet eit = true) (hb : blkB cc.N cc.sc scope (ownOf cc.N tg.slots) = true) (hg : kG (cc.inner scope) tg etg = true) (ht : ∀ c, SndTs w xr (blkOf X scope c) W0 ifs fc) (he : ∀ c, SndE w xr (blkOf X scope c) W0 eelt (evalE cf elt))
    (hi : itArgs cc k src.length etg eit = some es) (hs : ∀ e ∈ es, Expr.star e = false) (ha : SndA w xr X W es (evalEs cf src)) (h1 : ∀ i, src = [i] → k = .val → SndB w xr X W eit fun z => fst1 (evalE cf i z)) :
    SndE w xr X W (.ListComp eelt [⟨etg, eit, ifs, 0⟩] scope pos) (fun z => (evalEs cf src z).bind fun ds z => compK tg k fc (evalE cf elt) ds z) := by
  have si : SndI w xr X W etg eit k (evalEs cf src) := by
    by_cases hk : k = .val
    · subst hk
      simp only [itArgs] at hi
      split at hi
      · rename_i hl
        obtain ⟨i, rfl⟩ := List.length_eq_one_iff.mp hl
        exact i_val (h1 i rfl rfl)
      · cases hi
    · obtain ⟨r, r1, r2⟩ := it_call (xr := xr) G hk hi hs
      exact i_call ha r1 r2
  exact s_lc (G.calm hh) (by rw [G.hN]; exact G.nd) (blk_ok (by rw [G.hN, G.sc]; exact hb)) (own_snd _ _) (notSet_it hn _) (lc_ok si (fun c => kG_ok (G.inner hh scope c) tg etg hg) ht fun c => (he c).F)

theorem vals_refs {vs : List V} : ∀ {cs : List Addr} {us : List Value}, vs = cs.map V.ref → Vals vs us → us = cs.map Value.ref
  | [], us, e, h => by subst e; cases h; rfl
  | c :: cs, us, e, h => by
    subst e
    cases h with
    | cons a t => cases a; rw [vals_refs rfl t]; rfl
theorem xcls_ok {w : Wd} {xr : Nat → Option Addr → V → Prop} {X : Cx} {W : WX} {cf : CF} {cc : CC} {lv : Nat} (G : Good w xr X W cf cc lv) : ∀ {cs : List Nat} {ys : List Expr}, cc.xcls cs ys = true →
    (∃ t, PA X ys t ∧ ∀ σ H (Q : List V → Hp → Prop), Q ((cs.map w.cad).map V.ref) H → t σ H Q) ∧ ∀ c', cf.sub c' c' = true → PySem.W.kitAny X.K (.ref (w.cad c')) ((cs.map w.cad).map Value.ref) = some (cs.any fun c => cf.sub c' c)
  | [], [], h => ⟨⟨_, pa_nil, fun σ H Q q => q⟩, fun c' _ => rfl⟩
  | [], y :: ys, h => by simp [CC.xcls] at h
  | c :: cs, [], h => by simp [CC.xcls] at h
  | c :: cs, y :: ys, h => by
    simp only [CC.xcls, Bool.and_eq_true] at h
    obtain ⟨h1, h2⟩ := h
    obtain ⟨⟨t, p, q⟩, k⟩ := xcls_ok G h2
    unfold CC.xcl at h1
    split at h1
    · rename_i y0 p0
      simp only [Bool.and_eq_true, decide_eq_true_eq, Bool.not_eq_true'] at h1
      obtain ⟨⟨g1, g2⟩, g3⟩ := h1
      obtain ⟨e1, _, e3⟩ := G.exc _ _ g3
      refine ⟨⟨_, pa_cons (pe_glob (v := .ref (w.cad c)) (gl_ok G g1) e1 rfl g2) p (star_ok rfl _ _), fun σ H Q hq => q _ _ _ hq⟩, fun c' hs => ?_⟩
      have := k c' hs
      simp only [List.map_cons, PySem.W.kitAny, e3 c' hs, List.any_cons]
      cases cf.sub c' c with
      | true => rfl
      | false => simpa using this
    · cases h1
theorem isx_ok {w : Wd} {xr : Nat → Option Addr → V → Prop} {X : Cx} {W : WX} {cf : CF} {cc : CC} {lv : Nat} (G : Good w xr X W cf cc lv) (hh : cc.hot = true) {i : Nat} {cs : List Nat} {x : Str} {y : Expr} {p0 p1 pos : Pos} (h1 : cc.blt "isinstance" = true) (h2 : cc.var i x = true)
    (h3 : (match y with
      | .Tuple ys _ _ => decide (cs.length ≤ 1000) && cc.xcls cs ys
      | .Name y p => match cs with
        | [c] => cc.xcl c (.Name y p) || (decide (y = "ValueError") && cc.blt y && decide (c = cc.pi.ve))
        | _ => false
      | _ => false) = true) : SndE w xr X W (.Call (.Name "isinstance" p0) [.Name x p1, y] [] pos) (evalE cf (.isx i cs)) := by
  obtain ⟨a, b, c, d⟩ := var_ok G h2
  obtain ⟨g1, g2⟩ := blt_ok G h1
  have GG := G
  obtain ⟨X0, a0, oe, cls, d0, pn, rfl, hz, hf, rfl⟩ := G.hx hh
  split at h3
  · rename_i ys k0 p2
    rw [Bool.and_eq_true, decide_eq_true_eq] at h3
    obtain ⟨q1, q2⟩ := xcls_ok GG h3.2
    exact s_isxT hz hf a b c d g1 g2 (fun c' q => (G.xcf c' q).1) q2 (by simpa using h3.1) q1 fun us hv => vals_refs rfl hv
  · rename_i y0 p2
    split at h3
    · rename_i c0
      rw [Bool.or_eq_true] at h3
      rcases h3 with h3 | h3
      · unfold CC.xcl at h3
        simp only [Bool.and_eq_true, decide_eq_true_eq, Bool.not_eq_true'] at h3
        obtain ⟨⟨q1, q2⟩, q3⟩ := h3
        obtain ⟨e1, _, e3⟩ := G.exc _ _ q3
        exact s_isx hz hf a b c d g1 g2 rfl (fun c' q => (G.xcf c' q).1) e3 (pe_glob (v := .ref (w.cad c0)) (gl_ok GG q1) e1 rfl q2) fun u hu => hu
      · simp only [Bool.and_eq_true, decide_eq_true_eq] at h3
        obtain ⟨⟨rfl, q2⟩, rfl⟩ := h3
        obtain ⟨g3, g4⟩ := blt_ok GG q2
        have hfree : ("ValueError" : Str) ∈ cc.pi.free := by
          unfold CC.blt at q2
          simp only [Bool.and_eq_true, decide_eq_true_eq] at q2
          exact q2.2
        exact s_isx hz hf a b c d g1 g2 rfl (fun c' q => (G.xcf c' q).1) (G.exv hfree) (pe_bltn (v := .ty "ValueError") g3 g4 PyProof.Rows.Boot.«ValueError» rfl (by decide) (by decide)) fun u hu => hu
    · cases h3
  · cases h3

section
variable {w : Wd} {xr : Nat → Option Addr → V → Prop} {cf : CF} {lv : Nat}
theorem ev_fun {cf : CF} {i : E} : (fun z => evalE cf i z) = evalE cf i := rfl
theorem o_ok {X : Cx} {W : WX} {l : Option Expr} {is : List E} {cc : CC} (h : kEs cc .b is l.toList = true) (h' : ∀ i e, is = [i] → l = some e → SndB w xr X W e fun z => fst1 (evalE cf i z)) : SndO w xr X W l (evalEs cf is) := by
  cases l with
  | none =>
    cases is with
    | nil => exact o_none
    | cons i is => simp [kEs] at h
  | some e =>
    match is, h with
    | [i], h => exact o_some (h' i e rfl rfl)
    | [], h => simp [kEs] at h
    | _ :: _ :: _, h => simp [kEs] at h
mutual
theorem kE_ok : ∀ (i : E) (cc : CC) (md : Md) (e : Expr) (X : Cx) (W : WX), Good w xr X W cf cc lv → kE cc md i e = true → SndM w xr X W cf e i md
  | .c d, cc, md, e, X, W, G, h => by
    simp only [kE, Bool.and_eq_true] at h
    exact fin_md h.1 (const_ok G h.2)
  | .v i, cc, md, e, X, W, G, h => by
    simp only [kE, Bool.and_eq_true] at h
    obtain ⟨h0, h⟩ := h
    split at h
    · obtain ⟨a, b, c, d⟩ := var_ok G h
      exact fin_md h0 (s_v a b c d)
    · cases h
  | .b i, cc, md, e, X, W, G, h => by
    simp only [kE, Bool.and_eq_true] at h
    obtain ⟨h0, h⟩ := h
    cases md with
    | b =>
      split at h
      · obtain ⟨a, b, c, d⟩ := var_ok G h
        exact s_b a b c d
      · cases h
    | v => cases h0
    | t => cases h0
    | n => cases h0
  | .w i, cc, md, e, X, W, G, h => by
    simp only [kE, Bool.and_eq_true] at h
    obtain ⟨h0, h⟩ := h
    cases md with
    | n =>
      split at h
      · obtain ⟨a, b, c, d⟩ := var_ok G h
        exact s_w a b c d
      · cases h
    | v => cases h0
    | t => cases h0
    | b => cases h0
  | .tup is, cc, md, e, X, W, G, h => by
    simp only [kE, Bool.and_eq_true] at h
    obtain ⟨h0, h⟩ := h
    split at h
    · simp only [Bool.and_eq_true, decide_eq_true_eq] at h
      have a := kEs_ok is cc .v _ X W G h.2
      exact fin_md h0 (s_tup h.1 (kEs_len _ _ _ _ h.2).1 a dlen_ok)
    · cases h
  | .lst is, cc, md, e, X, W, G, h => by
    simp only [kE, Bool.and_eq_true] at h
    obtain ⟨h0, h⟩ := h
    split at h
    · simp only [Bool.and_eq_true, decide_eq_true_eq] at h
      have a := kEs_ok is cc .v _ X W G h.2
      exact fin_md h0 (s_lst h.1 (kEs_len _ _ _ _ h.2).1 a dlen_ok)
    · cases h
  | .dct is, cc, md, e, X, W, G, h => by
    simp only [kE, Bool.and_eq_true] at h
    obtain ⟨h0, h⟩ := h
    split at h
    · rename_i ks vs pos
      simp only [Bool.and_eq_true, decide_eq_true_eq] at h
      obtain ⟨⟨⟨h1, h2⟩, h3⟩, h4⟩ := h
      have a := kPrs_ok is cc ks vs X W G pos h4
      cases ks with
      | nil =>
        have : vs = [] := List.length_eq_zero_iff.mp h2.symm
        subst this
        cases is with
        | nil => exact fin_md h0 s_dct0
        | cons i is => cases is <;> simp [kPrs] at h4
      | cons k ks => exact fin_md h0 (s_dsp h1 h2 (by simp) h3 a)
    · cases h
  | .box i, cc, md, e, X, W, G, h => by
    simp only [kE, Bool.and_eq_true] at h
    exact fin_md h.1 (s_box (kE_ok i cc .v e X W G h.2))
  | .bin o a b, cc, md, e, X, W, G, h => by
    simp only [kE, Bool.and_eq_true] at h
    obtain ⟨h0, h⟩ := h
    split at h
    · simp only [Bool.and_eq_true, decide_eq_true_eq] at h
      obtain ⟨⟨rfl, h1⟩, h2⟩ := h
      exact fin_md h0 (s_bin (kE_ok a cc .b _ X W G h1) (kE_ok b cc .b _ X W G h2))
    · cases h
  | .neg a, cc, md, e, X, W, G, h => by
    simp only [kE, Bool.and_eq_true] at h
    obtain ⟨h0, h⟩ := h
    split at h
    · exact fin_md h0 (s_neg (kE_ok a cc .b _ X W G h))
    · cases h
  | .not a, cc, md, e, X, W, G, h => by
    simp only [kE] at h
    split at h
    · have q := kE_ok a cc _ _ X W G h
      cases md with
      | v => exact s_not q
      | b => exact (s_not q).B
      | n => exact (s_not q).F.N
      | t => exact ⟨t_not q.1, fun op es pos he => by cases he⟩
    · cases h
  | .cmp o a b, cc, md, e, X, W, G, h => by
    simp only [kE] at h
    split at h
    · split at h
      · simp only [Bool.and_eq_true, decide_eq_true_eq] at h
        obtain ⟨⟨⟨rfl, h1⟩, h2⟩, h3⟩ := h
        exact fin_cmp (fun _ _ _ q => by cases q) (s_cmp G.units (notSet_ok h1) (kE_ok a cc .b _ X W G h2) (kE_ok b cc .b _ X W G h3))
      · cases h
    · cases h
  | .chain o o' a b c, cc, md, e, X, W, G, h => by
    simp only [kE] at h
    split at h
    · split at h
      · simp only [Bool.and_eq_true, decide_eq_true_eq] at h
        obtain ⟨⟨⟨⟨rfl, h1⟩, h2⟩, h3⟩, h4⟩ := h
        exact fin_cmp (fun _ _ _ q => by cases q) (s_chain G.units (notSet_ok h1 _) (kE_ok a cc .b _ X W G h2) (kE_ok b cc .b _ X W G h3) (kE_ok c cc .b _ X W G h4))
      · cases h
    · cases h
  | .and a b, cc, md, e, X, W, G, h => by
    simp only [kE] at h
    split at h
    · split at h
      · simp only [Bool.and_eq_true] at h
        exact and_ok (kE_ok a cc _ _ X W G h.1) (one_and (kE_ok b cc _ _ X W G h.2))
      · simp only [Bool.and_eq_true] at h
        exact and_ok (kE_ok a cc _ _ X W G h.1) (kE_ok b cc _ _ X W G h.2)
      · cases h
    · cases h
  | .or a b, cc, md, e, X, W, G, h => by
    simp only [kE] at h
    split at h
    · split at h
      · simp only [Bool.and_eq_true] at h
        exact or_ok (kE_ok a cc _ _ X W G h.1) (one_or (kE_ok b cc _ _ X W G h.2))
      · simp only [Bool.and_eq_true] at h
        exact or_ok (kE_ok a cc _ _ X W G h.1) (kE_ok b cc _ _ X W G h.2)
      · cases h
    · cases h
  | .ite c a b, cc, md, e, X, W, G, h => by
    simp only [kE, Bool.and_eq_true] at h
    obtain ⟨h0, h⟩ := h
    split at h
    · simp only [Bool.and_eq_true] at h
      exact fin_md h0 (s_ite (kE_ok c cc .t _ X W G h.1.1).1 (kE_ok a cc .v _ X W G h.1.2) (kE_ok b cc .v _ X W G h.2))
    · cases h
  | .ix a i, cc, md, e, X, W, G, h => by
    simp only [kE, Bool.and_eq_true] at h
    obtain ⟨h0, h⟩ := h
    split at h
    · simp only [Bool.and_eq_true, Bool.not_eq_true'] at h
      exact fin_md h0 (s_ix G.units h.1.1 (kE_ok a cc .b _ X W G h.1.2) (kE_ok i cc .b _ X W G h.2))
    · cases h
  | .sl a lo hi, cc, md, e, X, W, G, h => by
    simp only [kE, Bool.and_eq_true] at h
    obtain ⟨h0, h⟩ := h
    split at h
    · simp only [Bool.and_eq_true] at h
      obtain ⟨⟨h1, h2⟩, h3⟩ := h
      have r1 := kEs_ok lo cc .b _ X W G h2
      have r2 := kEs_ok hi cc .b _ X W G h3
      exact fin_md h0 (s_sl (kE_ok a cc .b _ X W G h1) (o_ok h2 fun i e q1 q2 => r1.2 i e q1 (by rw [q2]; rfl)) (o_ok h3 fun i e q1 q2 => r2.2 i e q1 (by rw [q2]; rfl)))
    · cases h
  | .rev a, cc, md, e, X, W, G, h => by
    simp only [kE, Bool.and_eq_true] at h
    obtain ⟨h0, h⟩ := h
    split at h
    · simp only [Bool.and_eq_true, decide_eq_true_eq] at h
      obtain ⟨rfl, h1⟩ := h
      exact fin_md h0 (s_rev (kE_ok a cc .b _ X W G h1))
    · simp only [Bool.and_eq_true, decide_eq_true_eq, Bool.not_eq_true'] at h
      obtain ⟨⟨⟨⟨⟨⟨hh, rfl⟩, rfl⟩, h1⟩, h2⟩, h3⟩, h4⟩ := h
      obtain ⟨g1, g2⟩ := blt_ok G h1
      obtain ⟨g3, g4⟩ := blt_ok G h2
      exact fin_md h0 (s_revC (G.calm hh) g1 g2 g3 g4 (one_star h3 _) (kE_ok a cc .b _ X W G h4))
    · cases h
  | .fld a f, cc, md, e, X, W, G, h => by
    simp only [kE, Bool.and_eq_true] at h
    obtain ⟨h0, h⟩ := h
    split at h
    · simp only [Bool.and_eq_true, decide_eq_true_eq] at h
      obtain ⟨⟨rfl, h1⟩, h2⟩ := h
      exact fin_md h0 (s_fld G.cls h1 (kE_ok a cc .b _ X W G h2))
    · cases h
  | .call f is, cc, md, e, X, W, G, h => by
    simp only [kE, Bool.and_eq_true] at h
    obtain ⟨h0, h⟩ := h
    split at h
    · simp only [Bool.and_eq_true, Bool.not_eq_true'] at h
      obtain ⟨⟨⟨hh, h1⟩, h2⟩, h3⟩ := h
      split at h3
      · rename_i i bs hlk
        simp only [Bool.and_eq_true, decide_eq_true_eq] at h3
        obtain ⟨rfl, h4⟩ := h3
        obtain ⟨l1, l2, l3⟩ := kAs_len _ _ _ _ h4
        exact fin_md h0 (call_ok G hh h1 h2 hlk l1 l2 l3 (kAs_ok is cc bs _ X W G h4))
      · cases h3
    · cases h
  | .mk c f is, cc, md, e, X, W, G, h => by
    simp only [kE, Bool.and_eq_true] at h
    obtain ⟨h0, h⟩ := h
    split at h
    · simp only [Bool.and_eq_true, Bool.not_eq_true'] at h
      obtain ⟨⟨⟨hh, h1⟩, h2⟩, h3⟩ := h
      split at h3
      · rename_i c' i bs hlk
        simp only [Bool.and_eq_true, decide_eq_true_eq] at h3
        obtain ⟨⟨rfl, rfl⟩, h4⟩ := h3
        obtain ⟨l1, l2, l3⟩ := kAs_len _ _ _ _ h4
        exact fin_md h0 (mk_ok G hh h1 h2 hlk l1 l2 l3 (kAs_ok is cc bs _ X W G h4))
      · cases h3
    · cases h
  | .om c m f o is, cc, md, e, X, W, G, h => by
    simp only [kE, Bool.and_eq_true] at h
    obtain ⟨h0, h⟩ := h
    split at h
    · simp only [Bool.and_eq_true, decide_eq_true_eq, Bool.not_eq_true'] at h
      obtain ⟨⟨⟨⟨⟨⟨hh, rfl⟩, h1⟩, h2⟩, h3⟩, h5⟩, h6⟩ := h
      split at h6
      · rename_i i bs hlk
        simp only [Bool.and_eq_true, decide_eq_true_eq] at h6
        obtain ⟨rfl, h4⟩ := h6
        obtain ⟨l1, l2, l3⟩ := kAs_len _ _ _ _ h4
        exact fin_md h0 (om_ok G hh h1 h2 hlk h3 l1 l2 l3 (kE_ok o cc .b _ X W G h5) (kAs_ok is cc bs _ X W G h4))
      · cases h6
    · cases h
  | .get o k d, cc, md, e, X, W, G, h => by
    simp only [kE, Bool.and_eq_true] at h
    obtain ⟨h0, h⟩ := h
    split at h
    · simp only [Bool.and_eq_true, decide_eq_true_eq, Bool.not_eq_true'] at h
      obtain ⟨⟨⟨⟨⟨⟨⟨rfl, h1⟩, h2⟩, h3⟩, h4⟩, h5⟩, h6⟩, h7⟩ := h
      exact fin_md h0 (s_get G.units h1 h2 h3 h4 (kE_ok o cc .b _ X W G h5) (kE_ok k cc .b _ X W G h6) (SndE.F (kE_ok d cc .v _ X W G h7)))
    · cases h
  | .popD o k d, cc, md, e, X, W, G, h => by
    simp only [kE, Bool.and_eq_true] at h
    obtain ⟨h0, h⟩ := h
    split at h
    · simp only [Bool.and_eq_true, decide_eq_true_eq, Bool.not_eq_true'] at h
      obtain ⟨⟨⟨⟨⟨⟨⟨rfl, h1⟩, h2⟩, h3⟩, h4⟩, h5⟩, h6⟩, h7⟩ := h
      exact fin_md h0 (s_popD h1 h2 h3 h4 (kE_ok o cc .b _ X W G h5) (kE_ok k cc .b _ X W G h6) (SndE.F (kE_ok d cc .v _ X W G h7)))
    · cases h
  | .isx i cs, cc, md, e, X, W, G, h => by
    simp only [kE, Bool.and_eq_true] at h
    obtain ⟨h0, h⟩ := h
    split at h
    · rename_i f p0 x p1 y pos
      simp only [Bool.and_eq_true, decide_eq_true_eq] at h
      obtain ⟨⟨⟨⟨hh, rfl⟩, h1⟩, h2⟩, h3⟩ := h
      exact fin_md h0 (isx_ok G hh h1 h2 h3)
    · cases h
  | .xpl i, cc, md, e, X, W, G, h => by
    simp only [kE, Bool.and_eq_true] at h
    obtain ⟨h0, h⟩ := h
    split at h
    · simp only [Bool.and_eq_true, decide_eq_true_eq] at h
      obtain ⟨⟨hh, rfl⟩, h2⟩ := h
      obtain ⟨a, b, c, d⟩ := var_ok G h2
      obtain ⟨X0, a0, oe, cls, d0, pn, rfl, hz, hf, rfl⟩ := G.hx hh
      exact fin_md h0 (s_xpl hz hf a b c d fun c' q => (G.xcf c' q).2)
    · cases h
  | .meth m o is, cc, md, e, X, W, G, h => by
    simp only [kE, Bool.and_eq_true] at h
    obtain ⟨h0, h⟩ := h
    split at h
    · simp only [Bool.and_eq_true, decide_eq_true_eq] at h
      obtain ⟨⟨⟨⟨⟨rfl, h1⟩, h2⟩, h3⟩, h4⟩, h5⟩ := h
      obtain ⟨l1, l2⟩ := kEs_len _ _ _ _ h5
      exact fin_md h0 (s_meth m h1 (l2 _ (by simp)) (pa_stars (X := X) _ fun e' he => l2 e' (List.mem_cons_of_mem _ he)) h2 h3 (kE_ok o cc .b _ X W G h4) (kEs_ok is cc .b _ X W G h5).1)
    · cases h
  | .fn f is, cc, md, e, X, W, G, h => by
    simp only [kE, Bool.and_eq_true] at h
    obtain ⟨h0, h⟩ := h
    split at h
    · simp only [Bool.and_eq_true, decide_eq_true_eq, Bool.not_eq_true'] at h
      obtain ⟨⟨⟨⟨hh, h1⟩, rfl⟩, h2⟩, h4⟩ := h
      obtain ⟨l1, l2⟩ := kEs_len _ _ _ _ h4
      obtain ⟨g1, g2⟩ := blt_ok G h2
      exact fin_md h0 (s_fn (G.calm hh) G.units f h1 g1 g2 (l2 _ (by simp)) (pa_stars (X := X) _ fun e' he => l2 e' (List.mem_cons_of_mem _ he)) (kEs_ok is cc .b _ X W G h4).1)
    · cases h
  | .isi i ts, cc, md, e, X, W, G, h => by
    simp only [kE, Bool.and_eq_true] at h
    obtain ⟨h0, h⟩ := h
    split at h
    · simp only [Bool.and_eq_true, decide_eq_true_eq, Bool.not_eq_true'] at h
      obtain ⟨⟨⟨⟨⟨rfl, h2⟩, h3⟩, h4⟩, h5⟩, h6⟩ := h
      obtain ⟨g1, g2⟩ := blt_ok G h2
      obtain ⟨g3, g4⟩ := blt_ok G h3
      split at h4
      · split at h4
        · rename_i t m hm
          simp only [Bool.and_eq_true, decide_eq_true_eq, Bool.not_eq_true'] at h4
          obtain ⟨⟨q1, q2⟩, q3⟩ := h4
          exact fin_md h0 (s_isi hm q1 (by simpa using q2) q3 g3 g4 g1 g2 h5 (kE_ok i cc .b _ X W G h6))
        · cases h4
      · cases h4
    · cases h
  | .comp elt tg k src [], cc, md, e, X, W, G, h => by
    simp only [kE, Bool.and_eq_true] at h
    obtain ⟨h0, h⟩ := h
    split at h
    · split at h
      · rename_i eelt scope pos gens etg eit ifs asy
        simp only [Bool.and_eq_true, decide_eq_true_eq, List.isEmpty_iff, Bool.not_eq_true'] at h
        obtain ⟨⟨⟨⟨⟨⟨⟨hh, rfl⟩, rfl⟩, h2⟩, h3⟩, h4⟩, h5⟩, h6⟩ := h
        split at h6
        · rename_i es hes
          obtain ⟨l1, l2⟩ := kEs_len _ _ _ _ h6
          have ra := kEs_ok src cc .b es X W G h6
          have rb := comp_ok (xr := xr) (fc := yesZ) G hh h2 h3 h4 (ifs := []) (fun c => ⟨_, pts_nil, fun b g z σ H Q S k => k g H (.refl _ _) S⟩) (fun c => kE_ok elt (cc.inner scope) .v eelt _ _ (G.inner hh scope c) h5) hes l2 ra.1 (pos := pos) fun i e1 e2 => by
            subst e1 e2
            simp only [itArgs, List.length_singleton, if_true, Option.some.injEq] at hes
            subst hes
            exact ra.2 _ _ rfl rfl
          have ev : (evalE cf (.comp elt tg k src [])) = fun z => (evalEs cf src z).bind fun ds z => compK tg k yesZ (evalE cf elt) ds z := by funext z; simp only [evalE]
          exact fin_md h0 (by rw [ev]; exact rb)
        · cases h6
      · cases h
    · cases h
  | .comp elt tg k src (c :: cs), cc, md, e, X, W, G, h => by
    simp only [kE, Bool.and_eq_true] at h
    obtain ⟨h0, h⟩ := h
    split at h
    · split at h
      · rename_i eelt scope pos gens etg eit ifs asy
        simp only [Bool.and_eq_true, decide_eq_true_eq, Bool.not_eq_true'] at h
        obtain ⟨⟨⟨⟨⟨⟨⟨hh, rfl⟩, h2⟩, h3⟩, h4⟩, h5⟩, h7⟩, h6⟩ := h
        split at h7
        · rename_i ec
          split at h6
          · rename_i es hes
            obtain ⟨l1, l2⟩ := kEs_len _ _ _ _ h6
            have ra := kEs_ok src cc .b es X W G h6
            have rb := comp_ok (xr := xr) (fc := evalE cf c) G hh h2 h3 h4 (ifs := [ec]) (fun bc => by
              obtain ⟨t, p, q⟩ := (kE_ok c (cc.inner scope) .t ec _ _ (G.inner hh scope bc) h7).1
              exact ⟨_, pts_one p, q⟩) (fun bc => kE_ok elt (cc.inner scope) .v eelt _ _ (G.inner hh scope bc) h5) hes l2 ra.1 (pos := pos) fun i e1 e2 => by
              subst e1 e2
              simp only [itArgs, List.length_singleton, if_true, Option.some.injEq] at hes
              subst hes
              exact ra.2 _ _ rfl rfl
            have ev : (evalE cf (.comp elt tg k src (c :: cs))) = fun z => (evalEs cf src z).bind fun ds z => compK tg k (evalE cf c) (evalE cf elt) ds z := by funext z; simp only [evalE]
            exact fin_md h0 (by rw [ev]; exact rb)
          · cases h6
        · cases h7
      · cases h
    · cases h
theorem kEs_ok : ∀ (is : List E) (cc : CC) (md : Md) (es : List Expr) (X : Cx) (W : WX), Good w xr X W cf cc lv → kEs cc md is es = true → SndL w xr X W cf es is md
  | [], cc, md, [], X, W, G, h => by cases md with
    | v => exact af_nil
    | b => exact ⟨a_nil, fun i' e' q1 q2 => by cases q1⟩
    | n => exact ⟨an_nil, fun i' e' q1 q2 => by cases q1⟩
    | t => trivial
  | [], cc, md, e :: es, X, W, G, h => by simp [kEs] at h
  | i :: is, cc, md, [], X, W, G, h => by simp [kEs] at h
  | i :: is, cc, md, e :: es, X, W, G, h => by
    simp only [kEs, Bool.and_eq_true, Bool.not_eq_true'] at h
    obtain ⟨⟨h1, h2⟩, h3⟩ := h
    have a := kE_ok i cc md e X W G h2
    have b := kEs_ok is cc md es X W G h3
    cases md with
    | v => exact af_cons h1 a.F b
    | b => exact ⟨a_cons h1 a b.1, fun i' e' q1 q2 => by cases q1; cases q2; exact a⟩
    | n => exact ⟨an_cons h1 a b.1, fun i' e' q1 q2 => by cases q1; cases q2; exact a⟩
    | t => trivial
theorem kAs_ok : ∀ (is : List E) (cc : CC) (bs : List Bool) (es : List Expr) (X : Cx) (W : WX), Good w xr X W cf cc lv → kAs cc bs is es = true → SndAM w xr X W es bs (evalEs cf is)
  | [], cc, [], [], X, W, G, h => am_nil
  | [], cc, [], e :: es, X, W, G, h => by simp [kAs] at h
  | [], cc, b :: bs, es, X, W, G, h => by cases b <;> simp [kAs] at h
  | i :: is, cc, [], es, X, W, G, h => by simp [kAs] at h
  | i :: is, cc, b :: bs, [], X, W, G, h => by cases b <;> simp [kAs] at h
  | i :: is, cc, true :: bs, e :: es, X, W, G, h => by
    simp only [kAs, Bool.and_eq_true, Bool.not_eq_true'] at h
    obtain ⟨⟨h1, h2⟩, h3⟩ := h
    exact am_b h1 (kE_ok i cc .b e X W G h2) (kAs_ok is cc bs es X W G h3)
  | i :: is, cc, false :: bs, e :: es, X, W, G, h => by
    simp only [kAs, Bool.and_eq_true, Bool.not_eq_true'] at h
    obtain ⟨⟨h1, h2⟩, h3⟩ := h
    exact am_f h1 (SndE.F (kE_ok i cc .v e X W G h2)) (kAs_ok is cc bs es X W G h3)
theorem kPrs_ok : ∀ (is : List E) (cc : CC) (ks : List (Option Expr)) (vs : List Expr) (X : Cx) (W : WX), Good w xr X W cf cc lv → ∀ pos, kPrs cc is ks vs = true → SndPs w xr X W pos ks vs (evalEs cf is)
  | [], cc, [], [], X, W, G, pos, h => pps_nil'
  | [], cc, [], v :: vs, X, W, G, pos, h => by simp [kPrs] at h
  | [], cc, k :: ks, vs, X, W, G, pos, h => by cases k <;> simp [kPrs] at h
  | [i], cc, ks, vs, X, W, G, pos, h => by
    cases ks with
    | nil => simp [kPrs] at h
    | cons k ks => cases k <;> simp [kPrs] at h
  | ik :: iv :: is, cc, [], vs, X, W, G, pos, h => by simp [kPrs] at h
  | ik :: iv :: is, cc, none :: ks, vs, X, W, G, pos, h => by simp [kPrs] at h
  | ik :: iv :: is, cc, some k :: ks, [], X, W, G, pos, h => by simp [kPrs] at h
  | ik :: iv :: is, cc, some k :: ks, v :: vs, X, W, G, pos, h => by
    simp only [kPrs, Bool.and_eq_true] at h
    obtain ⟨⟨h1, h2⟩, h3⟩ := h
    exact pps_cons' (SndE.F (kE_ok ik cc .v k X W G h1)) (SndE.F (kE_ok iv cc .v v X W G h2)) (kPrs_ok is cc ks vs X W G pos h3)
end
end
end Vi

namespace Vi
open PySem L2

def isLC : Expr → Bool
  | .ListComp .. => true
  | .SetComp .. => true
  | .DictComp .. => true
  | _ => false
def isTupE : Expr → Bool
  | .Tuple .. => true
  | .List .. => true
  | _ => false
/-- the list is made with the value on top of the name's -/
def lcSwap (cc : CC) (x : Str) (p : Pos) : Expr → Bool
  | .ListComp _ _ sc pos => decide (cc.sc.names.lookup x = some .local) && (p.line == pos.line) && !(sc.names.any fun (n, k) => n == x && (k == .local || k == .cell))
  | _ => false
/-- the name is a cell: no swap -/
def lcCell (cc : CC) (x : Str) : Expr → Bool
  | .ListComp .. => decide (cc.sc.names.lookup x = some .cell)
  | _ => false
def isComp : E → Bool
  | .comp .. => true
  | .box (.comp ..) => true
  | _ => false
def kAsg (cc : CC) (i : Nat) (x : Str) : Bool := decide (cc.N[i]? = some x) && (decide (cc.sc.names.lookup x = some .local) || decide (cc.sc.names.lookup x = some .cell))
def mutName (m : Str) : Bool := decide (m = "append") || decide (m = "extend") || decide (m = "insert")
/-- methods without arguments -/
def mutName0 (m : Str) : Bool := decide (m = "clear") || decide (m = "reverse")
mutual
def kS : CC → S → Stmt → Bool
  | cc, .set (.nm i) e, st => match st with
    | .Assign [.Name x p] ev pos => kAsg cc i x && kE cc .v e ev && (!isLC ev || (!cc.hot && lcSwap cc x p ev && isComp e) || lcCell cc x ev)
    | _ => false
  | cc, .set (.tp ts) e, st => match st with
    | .Assign [.Tuple tes k p] ev pos => (kG cc (.tp ts) (.Tuple tes k p) && kE cc .v e ev && !isTupE ev) || (match ts, e, tes, ev with
      | [.nm i, .nm j], .tup [ia, ib], [.Name x px, .Name y py], .Tuple [a, b] k2 p2 => !cc.hot && decide (cc.N[i]? = some x) && decide (cc.N[j]? = some y) && decide (i ≠ j) && decide (cc.sc.names.lookup x = some .local) && decide (cc.sc.names.lookup y = some .local) && decide (x ≠ y) && (px.line == py.line) && !Expr.star a && !Expr.star b && !(foldedForSure 8 a && foldedForSure 8 b) && !(constantsAlone 8 a && constantsAlone 8 b) && kEs cc .v [ia, ib] [a, b]
      | _, _, _, _ => false)
    | _ => false
  | _, .set (.tl _) _, _ => false
  | cc, .setIx o i e, st => match st with
    | .Assign [.Subscript eo ei sp] ev pos => !Expr.slice ei && kE cc .v e ev && kE cc .b o eo && kE cc .b i ei
    | _ => false
  | cc, .setF o f e, st => match st with
    | .Assign [.Attribute eo x p] ev pos => decide (x = f) && kE cc .v e ev && kE cc .b o eo
    | _ => false
  | cc, .setD n i e, st => match st with
    | .Assign [.Subscript (.Name x p) ei sp] ev pos => cc.var n x && !Expr.slice ei && kE cc .v e ev && kE cc .b i ei
    | _ => false
  | cc, .mutE m o is, st => match st with
    | .Expr (.Call (.Attribute eo m' ap) (e0 :: es) [] cp) pos => decide (m = m') && mutName m && baseOk eo && decide ((e0 :: es).length < 30) && (ap.endLine == cp.line) && kE cc .b o eo && kEs cc .v is (e0 :: es)
    | .Expr (.Call (.Attribute eo m' ap) [] [] cp) pos => decide (m = m') && mutName0 m && baseOk eo && is.isEmpty && (ap.endLine == cp.line) && kE cc .b o eo
    | _ => false
  | cc, .sdApp n k e, st => match st with
    | .Expr (.Call (.Attribute (.Call (.Attribute (.Name x _) m1 ap1) [ek, .List [] _] [] cp1) m2 ap2) [ev] [] cp2) pos => decide (m1 = "setdefault") && decide (m2 = "append") && cc.var n x && !Expr.star ek && !Expr.star ev && (ap1.endLine == cp1.line) && (ap2.endLine == cp2.line) && kE cc .b k ek && kE cc .v e ev
    | _ => false
  | cc, .setV n i e, st => match st with
    | .Assign [.Subscript (.Name x p) ei sp] ev pos => cc.var n x && !Expr.slice ei && kE cc .v e ev && kE cc .v i ei
    | _ => false
  | cc, .setSl n lo hi e, st => match st with
    | .Assign [.Subscript (.Name x p) (.Slice l h none _) sp] ev pos => cc.var n x && kE cc .v e ev && kEs cc .b lo l.toList && kEs cc .b hi h.toList
    | _ => false
  | cc, .mut m n is, st => match st with
    | .Expr (.Call (.Attribute (.Name x p) m' ap) (e0 :: es) [] cp) pos => decide (m = m') && mutName m && cc.var n x && decide ((e0 :: es).length < 30) && (ap.endLine == cp.line) && kEs cc .v is (e0 :: es)
    | .Expr (.Call (.Attribute (.Name x p) m' ap) [] [] cp) pos => decide (m = m') && mutName0 m && cc.var n x && is.isEmpty && (ap.endLine == cp.line)
    | _ => false
  | cc, .expr e, st => match st with
    | .Expr ev pos => !isLC ev && kE cc .v e ev
    | _ => false
  | cc, .ifS c a b, st => match st with
    | .If ec ea eb pos => kE cc .t c ec && kSs cc a ea && kSs cc b eb
    | _ => false
  | cc, .whl c a, st => match st with
    | .While ec ea [] pos => !cc.hot && kE cc .t c ec && kSs cc a ea
    | _ => false
  | cc, .for t .keys [ie] a, st => match st with
    | .For etg eit ea [] pos => !cc.hot && notSet eit && kGO cc t etg && kSs cc a ea && kE cc .b ie eit
    | _ => false
  | cc, .for t k src a, st => match st with
    | .For etg eit ea [] pos => !cc.hot && notSet eit && kGO cc t etg && kSs cc a ea && (match itArgs cc k src.length etg eit with
      | some es => kEs cc .n src es
      | none => false)
    | _ => false
  | cc, .ret e, st => match st with
    | .Return (some ev) pos => match e with
      | .v i => match ev with
        | .Name x p => cc.var i x
        | _ => false
      | e => kE cc .v e ev
    | _ => false
  | cc, .retN, st => match st with
    | .Return none pos => true
    | _ => false
  | cc, .cont, st => match st with
    | .Continue pos => true
    | _ => false
  | cc, .pass, st => match st with
    | .Pass pos => true
    | .Expr (.Constant (.str x) j p) pos => true
    | _ => false
  | cc, .raise c, st => match st with
    | .Raise (some (.Call (.Name x _) [.Constant (.str m) _ _] [] _)) none _ => !cc.hot && cc.gl x && !(x == ("__debug__" : Str)) && decide (cc.pi.exs.lookup x = some c)
    | _ => false
  | cc, .raiseP c e, st => match st with
    | .Raise (some (.Call (.Name x _) [ev] [] _)) none _ => !cc.hot && cc.gl x && !(x == ("__debug__" : Str)) && decide (cc.pi.exi.lookup x = some c) && !Expr.star ev && kE cc .v e ev
    | _ => false
  | cc, .tryE a c i h, st => match st with
    | .Try body [.ExceptHandler (some (.Name x np)) nm (b0 :: suite) hp] [] [] pos => !cc.hot && cc.xcl c (.Name x np) && kSs cc a body && kSs { cc with hot := true } h (b0 :: suite) && (match nm with
      | some n => decide (cc.N[i]? = some n) && decide (cc.sc.names.lookup n = some .local)
      | none => decide (cc.N.length ≤ i))
    | _ => false
def kSs : CC → List S → List Stmt → Bool
  | _, [], [] => true
  | cc, i :: is, s :: ss => kS cc i s && kSs cc is ss
  | _, _, _ => false
end

def kFor (cc : CC) (t : Tg) (k : ItK) (src : List E) (a : List S) (st : Stmt) : Bool := match st with
  | .For etg eit ea [] pos => !cc.hot && notSet eit && kGO cc t etg && kSs cc a ea && (match itArgs cc k src.length etg eit with
    | some es => kEs cc .n src es
    | none => false)
  | _ => false
theorem kS_for {cc : CC} {t : Tg} {k : ItK} {src : List E} {a : List S} {st : Stmt} (hk : k ≠ .keys) : kS cc (.for t k src a) st = kFor cc t k src a st := by
  cases k <;> first | (exact absurd rfl hk) | (unfold kFor; simp only [kS]; done)
structure GoodS (w : Wd) (xr : Nat → Option Addr → V → Prop) (X : Cx) (W : WX) (cf : CF) (cc : CC) (lv : Nat) : Prop where
  G : Good w xr X W cf cc lv
  top : ∀ x, X.fn x = true
  kind : cc.sc.kind = .function
  po : cc.hot = false → PassesOwn (model X.prog X.w) X.A X.env X.xe
  st : cc.hot = false → X.stack = X.env :: X.outer ∧ X.env.frame = some X.env.locals
  nx : cc.hot = false → ∀ c d v, ¬ xr c d v
section
variable {w : Wd} {xr : Nat → Option Addr → V → Prop} {X : Cx} {W : WX} {cf : CF} {cc : CC} {lv : Nat} {e ev : Expr} {i : E}
theorem takes_no {X : Cx} {a : Addr} {oe : Obj} {pn : List (Addr × Obj)} : Takes (Cx.suite X a ((a, oe) :: pn)) W0 := fun u s' x => by
  obtain ⟨_, _, _, _, _, _, _, _, _, _, _, _, _, _, _, _, h⟩ := x
  exact h.elim
theorem noLC_sw (h : isLC ev = false) (t : Option Expr) (l : Nat) (env : Env) : swapsWith ev t l env = pure false := by
  cases ev <;> first | rfl | (simp [isLC] at h)
theorem sw_attr {o : Expr} {f : Str} {p : Pos} (l : Nat) (env : Env) : swapsWith ev (some (.Attribute o f p)) l env = pure false := by
  cases ev <;> rfl
theorem sw_sub {o i : Expr} {p : Pos} (l : Nat) (env : Env) : swapsWith ev (some (.Subscript o i p)) l env = pure false := by
  cases ev <;> rfl
theorem sole_tup {es : List Expr} {k : Nat} {p : Pos} (l : Nat) (env : Env) : swapsWithSole [.Tuple es k p] ev l env = pure false := by
  cases ev <;> rfl
theorem sole_sub {a b : Expr} {p : Pos} (l : Nat) (env : Env) : swapsWithSole [.Subscript a b p] ev l env = pure false := by
  cases ev <;> rfl
theorem stores_sub {a b : Expr} {p : Pos} (env : Env) : swappedStores [.Subscript a b p] ev env = pure none := by
  cases ev <;> rfl
theorem stores_tup {es : List Expr} {k : Nat} {p : Pos} (h : isTupE ev = false) (env : Env) : swappedStores [.Tuple es k p] ev env = pure none := by
  cases ev <;> first | rfl | (simp [isTupE] at h)
theorem not_star : ∀ {a : Expr}, Expr.star a = false → (match a with | .Starred .. => true | _ => false) = false := by
  intro a h
  cases a <;> first | rfl | (simp [Expr.star] at h)
theorem stores_par {env : Env} {x y : Str} {px py pt p2 : Pos} {kt k2 : Nat} {a b : Expr} (hk : env.scope.kind = .function) (hx : env.scope.names.lookup x = some .local) (hy : env.scope.names.lookup y = some .local) (hn : x ≠ y) (hl : (px.line == py.line) = true) (ha : Expr.star a = false) (hb : Expr.star b = false)
    (h1 : (foldedForSure 8 a && foldedForSure 8 b) = false) (h2 : (constantsAlone 8 a && constantsAlone 8 b) = false) : swappedStores [.Tuple [.Name x px, .Name y py] kt pt] (.Tuple [a, b] k2 p2) env = pure (some [x, y]) := by
  have hl' : (py.line == px.line) = true := by
    have : px.line = py.line := by simpa using hl
    simp [this]
  have ed : [x, y].eraseDups = [x, y] := by
    have : (y == x) = false := by simp [Ne.symm hn]
    simp [List.eraseDups_cons, this]
  have s1 := not_star ha
  have s2 := not_star hb
  have k1 : (env.kindOf x == some .local) = true := by simp [Env.kindOf, hx]
  have k2 : (env.kindOf y == some .local) = true := by simp [Env.kindOf, hy]
  have bk : (env.blockKind != .function) = false := by simp [Env.blockKind, hk]
  have pp : ((Expr.Name x px).pos.line == px.line) = true := by
    show (px.line == px.line) = true
    simp
  have e0 : (([Expr.Name x px, Expr.Name y py].head?.map (·.pos.line)).getD 0) = px.line := rfl
  unfold swappedStores
  simp only [List.length_cons, List.length_nil, bk, List.any_cons, List.any_nil, s1, s2, e0, List.filterMap_cons, List.filterMap_nil, k1, k2, hl', List.all_cons, List.all_nil, Bool.and_true, Bool.and_self, h1, h2, beq_self_eq_true, ed, if_true]
  refine (if_neg (by decide)).trans ((if_neg (fun q => ?_)).trans ((if_neg (by decide)).trans rfl))
  rw [Bool.or_eq_true, Bool.or_eq_true] at q
  rcases q with q | q | q
  · exact Bool.noConfusion (s1.symm.trans q)
  · exact Bool.noConfusion (s2.symm.trans q)
  · cases q
theorem lc_sw {x : Str} {p : Pos} (hsc : X.env.scope = cc.sc) (hk : cc.sc.kind = .function) (h : lcSwap cc x p ev = true) (l : Nat) : swapsWith ev (some (.Name x p)) l X.env = pure true := by
  unfold lcSwap at h
  split at h
  · rename_i elt gens sc pos
    simp only [Bool.and_eq_true, decide_eq_true_eq] at h
    obtain ⟨⟨h1, h2⟩, h3⟩ := h
    have hb : X.env.blockKind = .function := by
      unfold Env.blockKind
      rw [hsc, hk]; rfl
    show (pure (X.env.blockKind == .function && X.env.kindOf x == some .local && p.line == pos.line && !(sc.names.any fun (n, k) => n == x && (k == .local || k == .cell))) : Sem Bool) = pure true
    rw [hb]
    unfold Env.kindOf
    rw [hsc, h1, h2, h3]
    rfl
  · cases h
theorem cell_sw {x : Str} (hsc : X.env.scope = cc.sc) (h : lcCell cc x ev = true) (l : Nat) (pp : Pos) : swapsWith ev (some (.Name x pp)) l X.env = pure false := by
  unfold lcCell at h
  split at h
  · rename_i elt gens sc pos
    have h := of_decide_eq_true h
    show (pure (X.env.blockKind == .function && X.env.kindOf x == some .local && pp.line == pos.line && !(sc.names.any fun (n, k) => n == x && (k == .local || k == .cell))) : Sem Bool) = pure false
    unfold Env.kindOf
    rw [hsc, h]
    have : ((some NameKind.cell : Option NameKind) == some NameKind.local) = false := by decide
    rw [this]
    simp
  · cases h
theorem sub_asg {o ei : Expr} {sp : Pos} (h : Expr.slice ei = false) (env : Env) : ∀ v, assign (.Subscript o ei sp) env v = (do
      let ov ← holding [v] (eval o env)
      let iv ← holding [v, ov] (eval ei env)
      standAt sp
      holding [v, ov, iv] (setItem ov iv v)
      release [v, ov, iv] []) := by
  intro v
  cases ei <;> first | rfl | (simp [Expr.slice] at h)
theorem asg_ok (G : GoodS w xr X W cf cc lv) {n : Nat} {x : Str} (h : kAsg cc n x = true) : X.N.length = w.m ∧ X.N.Nodup ∧ X.N[n]? = some x ∧ L2.Loc X.env.scope x ∧ (X.fn x = true ∨ X.env.scope.names.lookup x = some .local) := by
  unfold kAsg at h
  simp only [Bool.and_eq_true, Bool.or_eq_true, decide_eq_true_eq] at h
  refine ⟨by rw [G.G.hN]; exact G.G.m, by rw [G.G.hN]; exact G.G.nd, by rw [G.G.hN]; exact h.1, ?_, .inl (G.top x)⟩
  unfold L2.Loc
  rw [G.G.sc]
  exact h.2
theorem mut_ok {m : Str} (h : mutName m = true) : ∃ id r, LMut X m id r := by
  unfold mutName at h
  simp only [Bool.or_eq_true, decide_eq_true_eq] at h
  rcases h with (rfl | rfl) | rfl
  · exact ⟨_, _, lm_append⟩
  · exact ⟨_, _, lm_extend⟩
  · exact ⟨_, _, lm_insert⟩
theorem mut_ok0 {m : Str} (h : mutName0 m = true) : ∃ id r, LMut X m id r := by
  unfold mutName0 at h
  simp only [Bool.or_eq_true, decide_eq_true_eq] at h
  rcases h with rfl | rfl
  · exact ⟨_, _, lm_clear⟩
  · exact ⟨_, _, lm_reverse⟩
theorem setLc_ok0 (G : GoodS w xr X W cf cc lv) (hh : cc.hot = false) {n : Nat} {x : Str} {p : Pos} {ie : E} {pos : Pos} (h1 : kAsg cc n x = true) {elt : E} {tg : Tg} {k : ItK} {src cs : List E} (h2 : kE cc .v (.comp elt tg k src cs) ev = true) (h3 : lcSwap cc x p ev = true) (h4 : ie = .comp elt tg k src cs ∨ ie = .box (.comp elt tg k src cs)) :
    SndS w xr X W (.Assign [.Name x p] ev pos) (execS cf (.set (.nm n) ie)) := by
  obtain ⟨a1, a2, a3, a4, a5⟩ := asg_ok G h1
  have hsw := lc_sw (X := X) G.G.sc G.kind h3 pos.line
  · unfold lcSwap at h3
    split at h3
    · rename_i eelt gens scope lpos
      simp only [Bool.and_eq_true, decide_eq_true_eq] at h3
      have hxl : X.env.scope.names.lookup x = some .local := by rw [G.G.sc]; exact h3.1.1
      have fin : ∀ {etg eit : Expr} {ifs : List Expr} {es : List Expr} {fc : Z → R Z (D × Bool)}, gens = [⟨etg, eit, ifs, 0⟩] → notSet eit = true → blkB cc.N cc.sc scope (ownOf cc.N tg.slots) = true → kG (cc.inner scope) tg etg = true →
          (∀ c, SndTs w xr (blkOf X scope c) W0 ifs fc) → kE (cc.inner scope) .v elt eelt = true → itArgs cc k src.length etg eit = some es → kEs cc .b src es = true →
          ((evalE cf (.comp elt tg k src cs)) = fun z => (evalEs cf src z).bind fun ds z => compK tg k fc (evalE cf elt) ds z) → SndS w xr X W (.Assign [.Name x p] (.ListComp eelt gens scope lpos) pos) (execS cf (.set (.nm n) ie)) := by
        intro etg eit ifs es fc eg q1 q2 q3 q4 q5 q6 q7 q8
        subst eg
        have ra := kEs_ok (xr := xr) src cc .b es X W G.G q7
        obtain ⟨l1, l2⟩ := kEs_len _ _ _ _ q7
        have si : SndI w xr X W etg eit k (evalEs cf src) := by
          by_cases hk : k = .val
          · subst hk
            simp only [itArgs] at q6
            split at q6
            · rename_i hl
              obtain ⟨i, rfl⟩ := List.length_eq_one_iff.mp hl
              cases q6
              exact i_val (ra.2 _ _ rfl rfl)
            · cases q6
          · obtain ⟨r, r1, r2⟩ := it_call (xr := xr) G.G hk q6 l2
            exact i_call ra.1 r1 r2
        refine s_setLc a1 (G.G.calm hh) a2 a3 hxl hsw (blk_ok (by rw [G.G.hN, G.G.sc]; exact q2)) (own_snd _ _) (notSet_it q1 _) ?_
        have lk := lc_ok (cf := cf) (t := tg) (fc := fc) (fe := evalE cf elt) si (fun c => kG_ok (G.G.inner hh scope c) tg etg q3) q4 fun c => SndE.F (kE_ok elt (cc.inner scope) .v eelt _ _ (G.G.inner hh scope c) q5)
        rcases h4 with rfl | rfl
        · rw [q8]; exact lk
        · have e : evalE cf (.box (.comp elt tg k src cs)) = fun z => (evalE cf (.comp elt tg k src cs) z).bind fun a z => boxZ z a := by funext z; simp only [evalE]
          rw [e, q8]
          obtain ⟨wi, gU, tU, eU, L⟩ := lk
          exact ⟨wi, gU, tU, eU, L.box⟩
      cases cs with
      | nil =>
        simp only [kE, Bool.and_eq_true] at h2
        obtain ⟨h0, h⟩ := h2
        split at h
        · rename_i etg eit ifs asy
          simp only [Bool.and_eq_true, decide_eq_true_eq, List.isEmpty_iff, Bool.not_eq_true'] at h
          obtain ⟨⟨⟨⟨⟨⟨⟨_, rfl⟩, rfl⟩, h2⟩, h3⟩, h4⟩, h5⟩, h6⟩ := h
          split at h6
          · rename_i es hes
            exact fin (fc := yesZ) rfl h2 h3 h4 (fun c => ⟨_, pts_nil, fun b g z σ H Q S k => k g H (.refl _ _) S⟩) h5 hes h6 (by funext z; simp only [evalE])
          · cases h6
        · cases h
      | cons c cs =>
        simp only [kE, Bool.and_eq_true] at h2
        obtain ⟨h0, h⟩ := h2
        split at h
        · rename_i etg eit ifs asy
          simp only [Bool.and_eq_true, decide_eq_true_eq, Bool.not_eq_true'] at h
          obtain ⟨⟨⟨⟨⟨⟨⟨_, rfl⟩, h2⟩, h3⟩, h4⟩, h5⟩, h7⟩, h6⟩ := h
          split at h7
          · rename_i ec
            split at h6
            · rename_i es hes
              exact fin (fc := evalE cf c) rfl h2 h3 h4 (fun bc => by
                obtain ⟨t, p, q⟩ := (kE_ok (xr := xr) c (cc.inner scope) .t ec _ _ (G.G.inner hh scope bc) h7).1
                exact ⟨_, pts_one p, q⟩) h5 hes h6 (by funext z; simp only [evalE])
            · cases h6
          · cases h7
        · cases h
    · cases h3
theorem setLc_ok (G : GoodS w xr X W cf cc lv) (hh : cc.hot = false) {n : Nat} {x : Str} {p : Pos} {ie : E} {pos : Pos} (h1 : kAsg cc n x = true) (h2 : kE cc .v ie ev = true) (h3 : lcSwap cc x p ev = true) (h4 : isComp ie = true) :
    SndS w xr X W (.Assign [.Name x p] ev pos) (execS cf (.set (.nm n) ie)) := by
  unfold isComp at h4
  split at h4
  · exact setLc_ok0 G hh h1 h2 h3 (.inl rfl)
  · simp only [kE] at h2
    exact setLc_ok0 G hh h1 h2 h3 (.inr rfl)
  · cases h4
mutual
theorem kS_ok : ∀ (i : S) (st : Stmt) (xr : Nat → Option Addr → V → Prop) (X : Cx) (W : WX) (cc : CC), GoodS w xr X W cf cc lv → kS cc i st = true → SndS w xr X W st (execS cf i)
  | .set (.nm i) e, st, xr, X, W, cc, G, h => by
    simp only [kS] at h
    split at h
    · simp only [Bool.and_eq_true, Bool.or_eq_true, Bool.not_eq_true'] at h
      obtain ⟨⟨h1, h2⟩, h3⟩ := h
      rcases h3 with (h3 | ⟨⟨hh, h3⟩, h4⟩) | h3
      · obtain ⟨a1, a2, a3, a4, a5⟩ := asg_ok G h1
        exact s_set a1 a2 a3 a4 a5 (noLC_sw h3 _ _ _) (kE_ok e cc .v _ X W G.G h2)
      · exact setLc_ok G hh h1 h2 h3 h4
      · obtain ⟨a1, a2, a3, a4, a5⟩ := asg_ok G h1
        exact s_set a1 a2 a3 a4 a5 (cell_sw G.G.sc h3 _ _) (kE_ok e cc .v _ X W G.G h2)
    · cases h
  | .set (.tl ts) e, st, xr, X, W, cc, G, h => by
    simp [kS] at h
  | .set (.tp ts) e, st, xr, X, W, cc, G, h => by
    simp only [kS] at h
    split at h
    · rw [Bool.or_eq_true] at h
      rcases h with h | h
      · simp only [Bool.and_eq_true, Bool.not_eq_true'] at h
        obtain ⟨⟨h1, h2⟩, h3⟩ := h
        exact s_setT (kG_ok G.G _ _ h1) (sole_tup _ _) (stores_tup h3 _) (kE_ok e cc .v _ X W G.G h2)
      · split at h
        · simp only [Bool.and_eq_true, Bool.not_eq_true', decide_eq_true_eq] at h
          obtain ⟨⟨⟨⟨⟨⟨⟨⟨⟨⟨⟨⟨h0, h1⟩, h2⟩, h3⟩, h4⟩, h5⟩, h6⟩, h7⟩, h8⟩, h9⟩, h10⟩, h11⟩, h12⟩ := h
          have hsc := G.G.sc
          refine s_par (G.G.calm h0) (by rw [G.G.hN]; exact G.G.m) (by rw [G.G.hN]; exact G.G.nd) (by rw [G.G.hN]; exact h1) (by rw [G.G.hN]; exact h2) h3 (by rw [hsc]; exact h4) (by rw [hsc]; exact h5) (stores_par (by rw [hsc]; exact G.kind) (by rw [hsc]; exact h4) (by rw [hsc]; exact h5) h6 h7 h8 h9 h10 h11) (kEs_ok _ cc .v _ X W G.G h12)
        · cases h
    · cases h
  | .setIx o i e, st, xr, X, W, cc, G, h => by
    simp only [kS] at h
    split at h
    · simp only [Bool.and_eq_true, Bool.not_eq_true'] at h
      obtain ⟨⟨⟨h1, h2⟩, h3⟩, h4⟩ := h
      exact s_setIx G.G.units (sub_asg h1 _) (sole_sub _ _) (stores_sub _) (sw_sub _ _) (kE_ok e cc .v _ X W G.G h2) (kE_ok o cc .b _ X W G.G h3) (kE_ok i cc .b _ X W G.G h4)
    · cases h
  | .setF o f e, st, xr, X, W, cc, G, h => by
    simp only [kS] at h
    split at h
    · simp only [Bool.and_eq_true, decide_eq_true_eq] at h
      obtain ⟨⟨rfl, h2⟩, h3⟩ := h
      exact s_setF G.G.cls (sw_attr _ _) (kE_ok e cc .v _ X W G.G h2) (kE_ok o cc .b _ X W G.G h3)
    · cases h
  | .setD n i e, st, xr, X, W, cc, G, h => by
    simp only [kS] at h
    split at h
    · simp only [Bool.and_eq_true, Bool.not_eq_true'] at h
      obtain ⟨⟨⟨h1, h2⟩, h3⟩, h4⟩ := h
      obtain ⟨a, b, c, d⟩ := var_ok G.G h1
      exact s_setD G.G.units a b c d (sw_sub _ _) (kE_ok e cc .v _ X W G.G h3) (kE_ok i cc .b _ X W G.G h4)
    · cases h
  | .mutE m o is, st, xr, X, W, cc, G, h => by
    simp only [kS] at h
    split at h
    · simp only [Bool.and_eq_true, decide_eq_true_eq] at h
      obtain ⟨⟨⟨⟨⟨⟨rfl, h1⟩, h2⟩, h3⟩, h4⟩, h5⟩, h6⟩ := h
      obtain ⟨id, r, L⟩ := mut_ok (X := X) h1
      obtain ⟨l1, l2⟩ := kEs_len _ _ _ _ h6
      exact s_mutE L h2 (l2 _ (by simp)) (pa_stars (X := X) _ fun e' he => l2 e' (List.mem_cons_of_mem _ he)) h3 h4 (noLC_sw rfl _ _ _) (kE_ok o cc .b _ X W G.G h5) (kEs_ok is cc .v _ X W G.G h6)
    · simp only [Bool.and_eq_true, decide_eq_true_eq, List.isEmpty_iff] at h
      obtain ⟨⟨⟨⟨⟨rfl, h1⟩, h2⟩, rfl⟩, h4⟩, h5⟩ := h
      obtain ⟨id, r, L⟩ := mut_ok0 (X := X) h1
      exact s_mutE0 L h2 h4 (noLC_sw rfl _ _ _) (kE_ok o cc .b _ X W G.G h5)
    · cases h
  | .sdApp n k e, st, xr, X, W, cc, G, h => by
    simp only [kS] at h
    split at h
    · simp only [Bool.and_eq_true, decide_eq_true_eq, Bool.not_eq_true'] at h
      obtain ⟨⟨⟨⟨⟨⟨⟨⟨rfl, rfl⟩, h2⟩, h3⟩, h4⟩, h5⟩, h6⟩, h7⟩, h8⟩ := h
      obtain ⟨a, b, c, d⟩ := var_ok G.G h2
      exact s_sdApp a b c d h3 h4 h5 h6 (noLC_sw rfl _ _ _) (kE_ok k cc .b _ X W G.G h7) (kE_ok e cc .v _ X W G.G h8)
    · cases h
  | .setV n i e, st, xr, X, W, cc, G, h => by
    simp only [kS] at h
    split at h
    · simp only [Bool.and_eq_true, Bool.not_eq_true'] at h
      obtain ⟨⟨⟨h1, h2⟩, h3⟩, h4⟩ := h
      obtain ⟨a, b, c, d⟩ := var_ok G.G h1
      exact s_setV a b c d (sub_asg h2 _) (sole_sub _ _) (stores_sub _) (kE_ok e cc .v _ X W G.G h3) (kE_ok i cc .v _ X W G.G h4)
    · cases h
  | .setSl n lo hi e, st, xr, X, W, cc, G, h => by
    simp only [kS] at h
    split at h
    · simp only [Bool.and_eq_true] at h
      obtain ⟨⟨⟨h1, h2⟩, h3⟩, h4⟩ := h
      obtain ⟨a, b, c, d⟩ := var_ok G.G h1
      have r1 := kEs_ok lo cc .b _ X W G.G h3
      have r2 := kEs_ok hi cc .b _ X W G.G h4
      exact s_setSl a b c d (sole_sub _ _) (stores_sub _) (kE_ok e cc .v _ X W G.G h2) (o_ok h3 fun i e q1 q2 => r1.2 i e q1 (by rw [q2]; rfl)) (o_ok h4 fun i e q1 q2 => r2.2 i e q1 (by rw [q2]; rfl))
    · cases h
  | .mut m n is, st, xr, X, W, cc, G, h => by
    simp only [kS] at h
    split at h
    · simp only [Bool.and_eq_true, decide_eq_true_eq] at h
      obtain ⟨⟨⟨⟨⟨rfl, h1⟩, h2⟩, h3⟩, h4⟩, h5⟩ := h
      obtain ⟨a, b, c, d⟩ := var_ok G.G h2
      obtain ⟨id, r, L⟩ := mut_ok (X := X) h1
      obtain ⟨l1, l2⟩ := kEs_len _ _ _ _ h5
      exact s_mut L a b c d (l2 _ (by simp)) (pa_stars (X := X) _ fun e' he => l2 e' (List.mem_cons_of_mem _ he)) h3 h4 (noLC_sw rfl _ _ _) (kEs_ok is cc .v _ X W G.G h5)
    · simp only [Bool.and_eq_true, decide_eq_true_eq, List.isEmpty_iff] at h
      obtain ⟨⟨⟨⟨rfl, h1⟩, h2⟩, rfl⟩, h4⟩ := h
      obtain ⟨a, b, c, d⟩ := var_ok G.G h2
      obtain ⟨id, r, L⟩ := mut_ok0 (X := X) h1
      exact s_mut0 L a b c d h4 (noLC_sw rfl _ _ _)
    · cases h
  | .expr e, st, xr, X, W, cc, G, h => by
    simp only [kS] at h
    split at h
    · simp only [Bool.and_eq_true, Bool.not_eq_true'] at h
      exact s_expr (noLC_sw h.1 _ _ _) (kE_ok e cc .v _ X W G.G h.2)
    · cases h
  | .ifS c a b, st, xr, X, W, cc, G, h => by
    simp only [kS] at h
    split at h
    · simp only [Bool.and_eq_true] at h
      exact s_if (kE_ok c cc .t _ X W G.G h.1.1).1 (kSs_ok a _ xr X W cc G h.1.2) (kSs_ok b _ xr X W cc G h.2)
    · cases h
  | .whl c a, st, xr, X, W, cc, G, h => by
    simp only [kS] at h
    split at h
    · simp only [Bool.and_eq_true, Bool.not_eq_true'] at h
      exact s_whl (G.po h.1.1) (kE_ok c cc .t _ X W G.G h.1.2).1 (kSs_ok a _ xr X W cc G h.2)
    · cases h
  | .for t k src a, st, xr, X, W, cc, G, h => by
    by_cases hk : k = .keys
    · subst hk
      cases src with
      | nil =>
        simp only [kS] at h
        split at h <;> simp [itArgs] at h
      | cons ie r =>
        cases r with
        | cons i2 r =>
          simp only [kS] at h
          split at h <;> simp [itArgs] at h
        | nil =>
          simp only [kS] at h
          split at h
          · simp only [Bool.and_eq_true, Bool.not_eq_true'] at h
            obtain ⟨⟨⟨⟨hh, h1⟩, h2⟩, h3⟩, h4⟩ := h
            exact s_forD (G.po hh) (G.G.calm hh) (notSet_it h1 _) (kE_ok ie cc .b _ X W G.G h4) (kGO_ok G.G _ _ h2) (kSs_ok a _ xr X W cc G h3)
          · cases h
    rw [kS_for hk] at h
    unfold kFor at h
    split at h
    · simp only [Bool.and_eq_true, Bool.not_eq_true'] at h
      rename_i etg eit ea pos
      obtain ⟨⟨⟨⟨hh, h1⟩, h2⟩, h3⟩, h4⟩ := h
      split at h4
      · rename_i es hes
        have ra := kEs_ok (xr := xr) src cc .n es X W G.G h4
        obtain ⟨l1, l2⟩ := kEs_len _ _ _ _ h4
        have si : SndIF w xr X W etg eit k (evalEs cf src) := by
          by_cases hk : k = .val
          · subst hk
            simp only [itArgs] at hes
            split at hes
            · rename_i hl
              obtain ⟨i, rfl⟩ := List.length_eq_one_iff.mp hl
              cases hes
              exact if_val (ra.2 _ _ rfl rfl)
            · cases hes
          · obtain ⟨r, r1, r2⟩ := it_call (xr := xr) G.G hk hes l2
            exact if_call ra.1 r1 r2
        exact s_for hk (G.po hh) (G.G.calm hh) (notSet_it h1 _) si (kGO_ok G.G _ _ h2) (kSs_ok a _ xr X W cc G h3)
      · cases h4
    · cases h
  | .ret e, st, xr, X, W, cc, G, h => by
    simp only [kS] at h
    split at h
    · split at h
      · split at h
        · obtain ⟨a, b, c, d⟩ := var_ok G.G h
          exact s_retV a b c d
        · cases h
      · rename_i hn
        exact s_ret hn (kE_ok e cc .v _ X W G.G h)
    · cases h
  | .retN, st, xr, X, W, cc, G, h => by
    simp only [kS] at h
    split at h
    · exact s_retN
    · cases h
  | .cont, st, xr, X, W, cc, G, h => by
    simp only [kS] at h
    split at h
    · exact s_cont
    · cases h
  | .pass, st, xr, X, W, cc, G, h => by
    simp only [kS] at h
    split at h
    · exact s_pass
    · exact s_doc
    · cases h
  | .raise c, st, xr, X, W, cc, G, h => by
    simp only [kS] at h
    split at h
    · simp only [Bool.and_eq_true, decide_eq_true_eq, Bool.not_eq_true'] at h
      obtain ⟨⟨⟨hh, h1⟩, h2⟩, h3⟩ := h
      obtain ⟨e1, e2⟩ := G.G.exs _ _ h3
      exact s_raise (G.G.calm hh) G.G.tk e2 (gl_ok G.G h1) e1 h2
    · cases h
  | .raiseP c e, st, xr, X, W, cc, G, h => by
    simp only [kS] at h
    split at h
    · simp only [Bool.and_eq_true, decide_eq_true_eq, Bool.not_eq_true'] at h
      obtain ⟨⟨⟨⟨⟨hh, h1⟩, h2⟩, h3⟩, h4⟩, h5⟩ := h
      obtain ⟨e1, fI, fd, q1, q2, q3, q4, q5⟩ := G.G.exi _ _ h3
      exact s_raiseP (G.G.calm hh) G.G.tk q1 q2 q3 q4 (G.G.room hh) G.G.lve q5 (gl_ok G.G h1) e1 h2 h4 (kE_ok e cc .v _ X W G.G h5)
    · cases h
  | .tryE a c i b, st, xr, X, W, cc, G, h => by
    simp only [kS] at h
    split at h
    · rename_i body x np nm b0 suite hp pos
      simp only [Bool.and_eq_true, Bool.not_eq_true'] at h
      obtain ⟨⟨⟨⟨hh, h1⟩, h2⟩, h3⟩, h4⟩ := h
      unfold CC.xcl at h1
      simp only [Bool.and_eq_true, decide_eq_true_eq, Bool.not_eq_true'] at h1
      obtain ⟨⟨g1, g2⟩, g3⟩ := h1
      obtain ⟨e1, e2, _⟩ := G.G.exc _ _ g3
      obtain ⟨s1, s2⟩ := G.st hh
      have hN : X.N.Nodup := by rw [G.G.hN]; exact G.G.nd
      have hm : X.N.length = w.m := by rw [G.G.hN]; exact G.G.m
      have hnames : Names X x (.ref (w.cad c)) := ⟨gl_ok G.G g1, g2, .inl e1⟩
      have bodyOk : ∀ (W' : WX) (pn : List (Addr × Obj)) (xe : Value → Shared → Prop), Takes (X.tr pn xe) W' → PassesOwn (model X.prog X.w) X.A X.env xe → SndSs w xr (X.tr pn xe) W' body (execB cf a) := fun W' pn xe tk po =>
        kSs_ok a body xr (X.tr pn xe) W' cc ⟨⟨G.G.hN, G.G.nd, G.G.m, G.G.sc, G.G.calm, G.G.top, G.G.fns, G.G.room, G.G.un, G.G.lve, G.G.free, G.G.con, tk, G.G.cls, G.G.mks, G.G.mth, G.G.exs, G.G.exi, G.G.exc, G.G.exv, G.G.xcf, (fun q => by rw [hh] at q; cases q)⟩, G.top, G.kind, fun _ => po, G.st, G.nx⟩ h2
      have suiteOk : ∀ (a' : Addr) (oe : Obj) (cls : Value) (d : Option Addr) (pn : List (Addr × Obj)), Zc cls d oe → (∃ vs, oe.data = .fields vs) → SndSs w (xrOf w.cad a' cls d) (X.suite a' ((a', oe) :: pn)) W0 (b0 :: suite) (execB cf b) := fun a' oe cls d pn hz hf =>
        kSs_ok b (b0 :: suite) (xrOf w.cad a' cls d) (X.suite a' ((a', oe) :: pn)) W0 { cc with hot := true } ⟨⟨G.G.hN, G.G.nd, G.G.m, G.G.sc, (fun q => by cases q), G.G.top, G.G.fns, (fun q => by cases q), G.G.un, G.G.lve, G.G.free, G.G.con, takes_no, G.G.cls, (fun _ _ _ _ _ q => by cases q), G.G.mth, G.G.exs, G.G.exi, G.G.exc, G.G.exv, G.G.xcf, fun _ => ⟨X, a', oe, cls, d, pn, rfl, hz, hf, rfl⟩⟩, G.top, G.kind, (fun q => by cases q), (fun q => by cases q), (fun q => by cases q)⟩ h3
      cases nm with
      | some n =>
        simp only [Bool.and_eq_true, decide_eq_true_eq] at h4
        exact s_try (G.nx hh) s1 s2 hN hm (by rw [G.G.hN]; exact h4.1) (by unfold Env.kindOf; rw [G.G.sc]; exact h4.2) hnames G.G.tk e2 bodyOk suiteOk
      | none =>
        exact s_try0 (G.nx hh) s1 s2 hm (by rw [G.G.hN]; simpa using h4) hnames G.G.tk e2 bodyOk suiteOk
    · cases h
theorem kSs_ok : ∀ (is : List S) (ss : List Stmt) (xr : Nat → Option Addr → V → Prop) (X : Cx) (W : WX) (cc : CC), GoodS w xr X W cf cc lv → kSs cc is ss = true → SndSs w xr X W ss (execB cf is)
  | [], [], xr, X, W, cc, G, h => ss_nil
  | [], s :: ss, xr, X, W, cc, G, h => by simp [kSs] at h
  | i :: is, [], xr, X, W, cc, G, h => by simp [kSs] at h
  | i :: is, s :: ss, xr, X, W, cc, G, h => by
    simp only [kSs, Bool.and_eq_true] at h
    exact ss_cons (kS_ok i s xr X W cc G h.1) (kSs_ok is ss xr X W cc G h.2)
end
end
end Vi

namespace Vi
open PySem L2

/-! ### the defs of a program -/
structure DI where
  x : Str
  qn : Str
  st : Stmt
  N : List Str
  ps : List Str
  d : Df
def DI.cc (di : DI) (pi : PInf) : CC := ⟨di.N, defScope di.st, true, pi, false⟩
def DI.ok (di : DI) (pi : PInf) : Bool :=
  scB di.N di.ps (defScope di.st) && decide (di.N.length = di.d.m) && decide (di.ps.length = di.d.bs.length) && kSs (di.cc pi) di.d.body (defBody di.st)
def modeB (ds : List DI) (i : Nat) (bs : List Bool) : Bool := match ds[i]? with
  | some di => decide (di.d.bs = bs)
  | none => false
def fnsB (ds : List DI) (pi : PInf) : Bool := (pi.fns.all fun p => modeB ds p.2.1 p.2.2) && (pi.mks.all fun p => modeB ds p.2.2.1 (false :: p.2.2.2)) && (pi.mth.all fun p => modeB ds p.2.2.1 (false :: p.2.2.2))
theorem lookup_mem {α : Type} {x : Str} {v : α} : ∀ {l : List (Str × α)}, l.lookup x = some v → (x, v) ∈ l
  | [], h => by cases h
  | (y, u) :: l, h => by
    rw [List.lookup_cons] at h
    split at h
    · rename_i q
      cases h
      rw [eq_of_beq q]
      exact List.mem_cons_self
    · exact List.mem_cons_of_mem _ (lookup_mem h)
theorem mt_mem {pi : PInf} {c i : Nat} {m : Str} {bs : List Bool} (h : pi.mt c m = some (i, bs)) : (c, m, i, bs) ∈ pi.mth := by
  unfold PInf.mt at h
  obtain ⟨⟨c', m', q⟩, h1, h2⟩ := Option.map_eq_some_iff.mp h
  have h3 := List.find?_some h1
  simp only [Bool.and_eq_true, decide_eq_true_eq] at h3
  obtain ⟨rfl, rfl⟩ := h3
  simp only at h2
  subst h2
  exact List.mem_of_find?_eq_some h1
/-- what the top has made of the defs and classes -/
structure Made (K : PySem.W.Frag) (mg : Str → Option Value) (cad : Nat → Addr) (fok : Nat → Str → Bool) (sub : Nat → Nat → Bool) (ds : List DI) (pi : PInf) (fa : Nat → Addr) (fd : Nat → FuncData) : Prop where
  fn : ∀ i di, ds[i]? = some di → Fun K di.x di.qn di.st (fa i) (fd i) ∧ Binds K (fd i) di.ps []
  gl : ∀ x i bs, (x, i, bs) ∈ pi.fns → mg x = some (.ref (fa i)) ∧ PySem.W.keepIn K (.ref (fa i)) = true
  free : ∀ x ∈ pi.free, mg x = none
  con : ∀ x d, (x, d) ∈ pi.con → ∃ u v, mg x = some u ∧ RelV v u ∧ ∀ F al, Rp F al d v
  cls : ClsOk K cad fok
  mks : ∀ x c i bs, (x, c, i, bs) ∈ pi.mks → mg x = some (.ref (cad c)) ∧ Mk K (cad c) (fa i)
  mth : ∀ c m i bs, (c, m, i, bs) ∈ pi.mth → Cls K (cad c) ∧ Meth K (cad c) m (fa i)
  exs : ∀ x c, (x, c) ∈ pi.exs → mg x = some (.ref (cad c)) ∧ ExOk K (cad c)
  exi : ∀ x c, (x, c) ∈ pi.exi → mg x = some (.ref (cad c)) ∧ ∃ CF fI xF qn st fd, ExiOk K mg (cad c) CF fI xF ∧ Fun K "__init__" qn st fI fd ∧ exiB xF st = true ∧ Binds K fd ["self", "place"] []
  exc : ∀ x c, (x, c) ∈ pi.exc → mg x = some (.ref (cad c)) ∧ (∀ c', sub c' c' = true → PySem.W.exmOne K (.ref (cad c')) (.ref (cad c)) = some (sub c' c)) ∧ ∀ c', sub c' c' = true → PySem.W.kitOne K (.ref (cad c')) (.ref (cad c)) = some (sub c' c)
  exv : ("ValueError" : Str) ∈ pi.free → ∀ c', sub c' c' = true → PySem.W.kitOne K (.ref (cad c')) (.type "ValueError") = some (sub c' pi.ve)
  xcf : ∀ c', sub c' c' = true → PySem.W.XcF K (cad c') ∧ XfC K (cad c') ∧ PySem.W.findIn K (.ref (cad c')) "place" = some none
section
variable {P : Program} {w : World} {K : PySem.W.Frag} {mg : Str → Option Value} {base : Heap} {cad : Nat → Addr} {ds : List DI} {pi : PInf} {fa : Nat → Addr} {fd : Nat → FuncData}
theorem sp_len {bs : List Bool} {cl : List D → Os → R Os (D × Bool)} {vs : List V} {H : Hp} {Q : VK} {E : XK} (h : spR cad bs cl vs H Q E) : vs.length = bs.length := by
  obtain ⟨g, lk, os, xs, I, hn, _⟩ := h
  rw [Rms.length I.args, hn]
theorem ents_len : ∀ {bs : List Bool} {xs : List D}, xs.length = bs.length → (entsOf bs xs).length = bs.length
  | [], [], _ => rfl
  | b :: bs, x :: xs, h => by
    simp only [entsOf, List.length_cons]
    rw [ents_len (by simpa using h)]
  | [], _ :: _, h => by simp at h
  | _ :: _, [], h => by simp at h
theorem Rm.ent {g : Gh} {H : Hp} {lk : Addr → Obj × HO} {m : Nat} {xr : Nat → Option Addr → V → Prop} {b : Bool} {d : D} {v : V} (h : Rm g H b d v) : EntRel ⟨cad, m⟩ ⟨g.F, g.al, H, [], lk⟩ g H xr (entOf b d) (some (some v)) ∧ (entOf b d).owns = false := by
  unfold Rm at h
  unfold entOf
  cases b with
  | false =>
    rw [if_neg (by simp)] at h
    rw [if_neg (by simp)]
    refine ⟨⟨v, rfl, ?_⟩, rfl⟩
    unfold ValRel
    rw [if_neg (by simp)]
    exact h
  | true =>
    rw [if_pos rfl] at h
    have h' := h ⟨cad, m⟩
    by_cases hc : d.cell = true
    · rw [if_pos (by simp [hc])]
      refine ⟨⟨v, rfl, ?_⟩, rfl⟩
      cases d with
      | lst xs =>
        obtain ⟨a, vs, rfl, q, r⟩ := h'
        rcases q with q | ⟨u, q⟩
        · obtain ⟨n, q⟩ := of_unbox q
          exact ⟨a, vs, rfl, n, .inl q, r⟩
        · obtain ⟨n, q⟩ := of_unbox q
          exact ⟨a, vs, rfl, n, .inr ⟨u, q⟩, r⟩
      | dct kvs =>
        obtain ⟨a, rfl, q⟩ := h'
        rcases q with ⟨l, q, r⟩ | ⟨l, q, r⟩
        · obtain ⟨n, q⟩ := of_unbox q
          exact ⟨a, rfl, n, .inl ⟨l, q, r⟩⟩
        · obtain ⟨n, q⟩ := of_unbox q
          exact ⟨a, rfl, n, .inr ⟨l, q, r⟩⟩
      | _ => simp [D.cell] at hc
    · rw [if_neg (by simp [hc])]
      refine ⟨⟨v, rfl, ?_⟩, rfl⟩
      unfold ValRel
      rw [if_neg (by simp)]
      cases d with
      | lst xs => simp [D.cell] at hc
      | dct kvs => simp [D.cell] at hc
      | _ => exact h'
theorem ents_get {g : Gh} {H : Hp} {lk : Addr → Obj × HO} {m : Nat} {xr : Nat → Option Addr → V → Prop} : ∀ {bs : List Bool} {xs : List D} {vs : List V} {i : Nat} {e : Ent}, Rms g H bs xs vs → (entsOf bs xs)[i]? = some e → ∃ v, vs[i]? = some v ∧ EntRel ⟨cad, m⟩ ⟨g.F, g.al, H, [], lk⟩ g H xr e (some (some v)) ∧ e.owns = false
  | [], xs, vs, i, e, r, h => by simp [entsOf] at h
  | b :: bs, [], vs, i, e, r, h => by simp [entsOf] at h
  | b :: bs, x :: xs, vs, 0, e, r, h => by
    obtain ⟨v, q, rfl, h1, h2⟩ := r
    simp only [entsOf, List.getElem?_cons_zero, Option.some.injEq] at h
    subst h
    exact ⟨v, rfl, Rm.ent h1⟩
  | b :: bs, x :: xs, vs, i + 1, e, r, h => by
    obtain ⟨v, q, rfl, h1, h2⟩ := r
    simp only [entsOf, List.getElem?_cons_succ] at h
    exact ents_get (i := i) h2 h
theorem sim_start {xr : Nat → Option Addr → V → Prop} {N : List Str} {g : Gh} {lk : Addr → Obj × HO} {H : Hp} {os : Os} {bs : List Bool} {xs : List D} {vs : List V} (I : Inp cad lk g H os bs xs vs) (hn : xs.length = bs.length) (hl : xs.length ≤ N.length) : Sim ⟨cad, N.length⟩ xr ⟨g.F, g.al, H, [], lk⟩ g ⟨envOf bs N.length xs, os⟩ (L2.start N vs) H := by
  have hv := Rms.length I.args
  have l1 : (L2.start N vs).length = N.length := by
    unfold L2.start
    rw [List.length_append, List.length_map, List.length_replicate]; omega
  have l3 := ents_len hn
  have l2 : (envOf bs N.length xs).length = N.length := by
    unfold envOf
    rw [List.length_append, List.length_replicate, l3]; omega
  have get : ∀ (i : Nat) (e : Ent), (envOf bs N.length xs)[i]? = some e → e = .no ∨ ∃ v, vs[i]? = some v ∧ EntRel ⟨cad, N.length⟩ ⟨g.F, g.al, H, [], lk⟩ g H xr e (some (some v)) ∧ e.owns = false := by
    intro i e h
    unfold envOf at h
    by_cases hi : i < (entsOf bs xs).length
    · rw [List.getElem?_append_left hi] at h
      exact .inr (ents_get I.args h)
    · rw [List.getElem?_append_right (by omega), List.getElem?_replicate] at h
      split at h
      · exact .inl (Option.some.inj h).symm
      · cases h
  refine ⟨I.sub, fun a h => .inl h, fun a o h _ => h, .refl _, .refl _, fun a h => .inl h, I.alF, I.nd, I.box, by rw [l1]; exact l2, l1, fun i e he => ?_, fun i j e e' hij h1 h2 o1 o2 => ?_, fun a ha => by cases ha⟩
  · rcases get i e he with rfl | ⟨v, h2, h3, _⟩
    · trivial
    · have : (L2.start N vs)[i]? = some (some v) := by
        unfold L2.start
        have hi : i < vs.length := (List.getElem?_eq_some_iff.mp h2).1
        rw [List.getElem?_append_left (by simpa using hi), List.getElem?_map, h2]; rfl
      rw [this]
      exact h3
  · rcases get i e h1 with rfl | ⟨v, _, _, q⟩
    · cases o1
    · rw [q] at o1; cases o1
theorem Sim.outC {xr : Nat → Option Addr → V → Prop} {m : Nat} {g g' : Gh} {lk : Addr → Obj × HO} {H H' : Hp} {z : Z} {σ : St} (S : Sim ⟨cad, m⟩ xr ⟨g.F, g.al, H, [], lk⟩ g' z σ H') : Out cad lk g H g' H' z.os :=
  ⟨⟨S.pF, S.pre, S.alnew, S.kept⟩, S.new, S.sub, S.alF, S.nd, S.box⟩
theorem ValRel.ret {m : Nat} {g g' : Gh} {lk : Addr → Obj × HO} {H H' : Hp} {d : D} {fr : Bool} {v : V} (h : ValRel ⟨cad, m⟩ ⟨g.F, g.al, H, [], lk⟩ g' H' d fr v) : Ret g' H H' d fr v := by
  unfold ValRel at h
  unfold Ret
  split
  · rename_i hc
    rw [if_pos hc] at h
    obtain ⟨a, e, o⟩ := h
    exact ⟨a, e, o.nF, o.nB, o.nH, o.cl⟩
  · rename_i hc
    rw [if_neg hc] at h
    exact h
theorem call_succ (T : Tb) (k f : Nat) (xs : List D) (os : Os) : call T (k + 1) f xs os = match T.defs[f]? with
    | some d => if xs.length = d.bs.length then outF (execB (T.cf k) d.body ⟨envOf d.bs d.m xs, os⟩) else .stuck
    | none => .stuck := by
  cases k <;> rfl
theorem defs_ok (T : Tb) (hT : T.defs = ds.map (·.d)) (M : Made K mg cad T.fok T.sub ds pi fa fd) (hfns : fnsB ds pi = true) (hds : ds.all (fun di => di.ok pi) = true) :
    ∀ k i di, ds[i]? = some di → FnOk P w K mg base (L2.CX P w) k (fa i) (fd i) di.ps (spR cad di.d.bs (call T k i)) := by
  have hall := List.all_eq_true.mp hds
  have plen : ∀ {i : Nat} {di : DI}, ds[i]? = some di → di.ps.length = di.d.bs.length := fun {i di} h => by
    have := hall _ (List.mem_of_getElem? h)
    unfold DI.ok at this
    simp only [Bool.and_eq_true, decide_eq_true_eq] at this
    exact this.1.2
  unfold fnsB at hfns
  simp only [Bool.and_eq_true] at hfns
  obtain ⟨⟨hf1, hf2⟩, hf3⟩ := hfns
  have mode : ∀ {i : Nat} {bs : List Bool}, modeB ds i bs = true → ∃ dj, ds[i]? = some dj ∧ dj.d.bs = bs := fun {i bs} h => by
    unfold modeB at h
    split at h
    · rename_i dj hj
      exact ⟨dj, hj, of_decide_eq_true h⟩
    · cases h
  have zero : ∀ i di, ds[i]? = some di → FnOk P w K mg base (L2.CX P w) 0 (fa i) (fd i) di.ps (spR cad di.d.bs (call T 0 i)) := fun i di hi => by
    refine ⟨fun vs H Q E h => (sp_len h).trans (plen hi).symm, fun A outer s H args us vs Q E _ _ _ _ h => ?_⟩
    obtain ⟨g, lk, os, xs, _, _, h⟩ := h
    exact h.elim
  have step : ∀ k, (∀ i di, ds[i]? = some di → FnOk P w K mg base (L2.CX P w) k (fa i) (fd i) di.ps (spR cad di.d.bs (call T k i))) → (∀ i di, ds[i]? = some di → FnOk P w K mg base (L2.CX P w) (k - 1) (fa i) (fd i) di.ps (spR cad di.d.bs (call T (k - 1) i))) →
      ∀ i di, ds[i]? = some di → FnOk P w K mg base (L2.CX P w) (k + 1) (fa i) (fd i) di.ps (spR cad di.d.bs (call T (k + 1) i)) := by
    intro k ih ih2 i di hi
    have h0 := hall _ (List.mem_of_getElem? hi)
    unfold DI.ok at h0
    simp only [Bool.and_eq_true, decide_eq_true_eq] at h0
    obtain ⟨⟨⟨h1, h2⟩, h3⟩, h4⟩ := h0
    have SC := sc_ok h1
    obtain ⟨F, B⟩ := M.fn i di hi
    refine F.okX SC (fun vs H Q E h => (sp_len h).trans h3.symm) fun cdv A outer s H vs Q E hr h => ?_
    obtain ⟨g, lk, os, xs, I, hn, pc⟩ := h
    have hle : xs.length ≤ di.N.length := by
      have := congrArg List.length SC.pre
      rw [List.length_take] at this
      omega
    have G : GoodS ⟨cad, di.N.length⟩ (fun _ _ _ => False) (cxOf (L2.CX P w) P w K mg base di.N di.qn (defScope di.st) (fa i) cdv A outer s H E) (fun cls d _ H => E cls d H) (T.cf k) (di.cc pi) k := by
      refine ⟨⟨rfl, SC.nd, rfl, rfl, fun _ => rfl, fun _ _ => rfl, fun x j bs hx => ?_, fun _ => hr, hr.units, rfl, M.free, fun x d hx => M.con x d (lookup_mem hx), takes_of rfl rfl rfl rfl, M.cls, fun x c j bs hx _ => ?_, fun c m j bs hx => ?_, fun x c hx => M.exs x c (lookup_mem hx), fun x c hx => ?_, fun x c hx => M.exc x c (lookup_mem hx), M.exv, M.xcf, (fun q => by cases q)⟩, fun _ => rfl, SC.kind, fun _ => passes_of rfl, fun _ => ⟨rfl, rfl⟩, fun _ _ _ _ q => q⟩
      · have hm := lookup_mem hx
        obtain ⟨dj, e1, rfl⟩ := mode (List.all_eq_true.mp hf1 _ hm)
        obtain ⟨F', B'⟩ := M.fn j dj e1
        obtain ⟨m', kp'⟩ := M.gl _ _ _ hm
        exact ⟨fa j, fd j, dj.ps, ih j dj e1, m', kp', B'⟩
      · have hm := lookup_mem hx
        obtain ⟨dj, e1, e2⟩ := mode (List.all_eq_true.mp hf2 _ hm)
        obtain ⟨F', B'⟩ := M.fn j dj e1
        obtain ⟨m', M'⟩ := M.mks _ _ _ _ hm
        refine ⟨k - 1, fa j, fd j, dj.ps, by rw [← e2]; exact ih2 j dj e1, ?_, m', M', B'⟩
        cases k with
        | zero => exact .inr fun vs H Q E q => by obtain ⟨g, lk, os, xs, _, _, h⟩ := q; exact h.elim
        | succ k => exact .inl hr
      · have hm := mt_mem hx
        obtain ⟨dj, e1, e2⟩ := mode (List.all_eq_true.mp hf3 _ hm)
        obtain ⟨F', B'⟩ := M.fn j dj e1
        obtain ⟨C', M'⟩ := M.mth _ _ _ _ hm
        exact ⟨fa j, fd j, dj.ps, by rw [← e2]; exact ih j dj e1, C', M', B'⟩
      · obtain ⟨m', CF, fI, xF, qn, st, fd', T', F', hB, B'⟩ := M.exi _ _ (lookup_mem hx)
        exact ⟨m', fI, fd', T'.T, T'.iC, T'.tI, exi_fn T' F' hB, B'⟩
    obtain ⟨t, pt, qt⟩ := kSs_ok _ _ (fun _ _ _ => False) _ _ _ G h4
    refine ⟨t, pt, qt ⟨g.F, g.al, H, [], lk⟩ g ⟨envOf di.d.bs di.N.length xs, os⟩ (L2.start di.N vs) H _ (sim_start I hn hle) ?_⟩
    have ec : call T (k + 1) i xs os = outF (execB (T.cf k) di.d.body ⟨envOf di.d.bs di.N.length xs, os⟩) := by
      have : T.defs[i]? = some di.d := by rw [hT, List.getElem?_map, hi]; rfl
      rw [call_succ, this]
      simp only [hn, if_true, h2]
    rw [ec] at pc
    cases r : execB (T.cf k) di.d.body ⟨envOf di.d.bs di.N.length xs, os⟩ with
    | stuck => rw [r] at pc; exact pc
    | exc c x z' =>
      rw [r] at pc
      exact fun g' σ' H' cls dd l S x => pc g' H' cls dd S.outC x
    | ok f z' =>
      rw [r] at pc
      cases f with
      | next => exact fun g' σ' H' l S => pc g' H' .non S.outC (by unfold Ret; rw [if_neg (by simp)]; simp [Rp])
      | cont => exact pc.elim
      | ret d fr => exact fun g' σ' H' v l S vr => pc g' H' v S.outC vr.ret
  have both : ∀ k, (∀ i di, ds[i]? = some di → FnOk P w K mg base (L2.CX P w) k (fa i) (fd i) di.ps (spR cad di.d.bs (call T k i))) ∧ (∀ i di, ds[i]? = some di → FnOk P w K mg base (L2.CX P w) (k - 1) (fa i) (fd i) di.ps (spR cad di.d.bs (call T (k - 1) i))) := by
    intro k
    induction k with
    | zero => exact ⟨zero, zero⟩
    | succ k ih => exact ⟨step k ih.1 ih.2, ih.1⟩
  exact fun k => (both k).1
end
end Vi

namespace Vi
open PySem L2

/-- nothing written by the top is a list -/
def noLists (K : PySem.W.Frag) : Bool := K.all fun p => match p.2.cls with
  | .type n => decide (n ≠ "list")
  | _ => true
theorem noLists_ok {K : PySem.W.Frag} (h : noLists K = true) {a : Addr} {o : Obj} (e : K.lookup a = some o) : o.cls ≠ .type "list" := by
  induction K with
  | nil => cases e
  | cons p r ih =>
    unfold noLists at h
    simp only [List.all_cons, Bool.and_eq_true] at h
    rw [List.lookup_cons] at e
    split at e
    · cases e
      intro q
      have h1 := h.1
      rw [q] at h1
      simp at h1
    · exact ih h.2 e
def spLaw (K : PySem.W.Frag) : Sp := fun vs H Q _ => ∃ (a : Addr) (ns : List Int), vs = [.ref a] ∧ SqL K H a (ns.map V.int) ∧ ns.length ≤ 63 ∧ (∀ z ∈ ns, Builtin.Int.intBits z ≤ 1048576) ∧ ∀ H', Q (.bl true) H'
theorem rps_ints {F : Hp} {al : List Addr} : ∀ ns : List Int, Rps F al (ns.map D.int) (ns.map V.int)
  | [] => Rps.nil
  | n :: ns => Rps.cons (by simp [Rp]) (rps_ints ns)
def okTrue : R Os (D × Bool) → Prop
  | .ok a _ => a.1 = .bl true
  | _ => False
theorem law_fn {P : Program} {w : World} {K : PySem.W.Frag} {mg : Str → Option Value} {base : Heap} {cad : Nat → Addr} {k i : Nat} {f : Addr} {fd : FuncData} {ps : List Str} {T : Tb} (nl : noLists K = true) (F : FnOk P w K mg base (L2.CX P w) k f fd ps (spR cad [false] (call T k i)))
    (law : ∀ ns : List Int, ns.length ≤ 63 → (∀ z ∈ ns, Builtin.Int.intBits z ≤ 1048576) → okTrue (call T k i [.lst (ns.map D.int)] [])) : FnOk P w K mg base (L2.CX P w) k f fd ps (spLaw K) := by
  refine F.imp fun vs H Q E h => ?_
  obtain ⟨a, ns, rfl, hS, hl, hb, k⟩ := h
  have hr : Rd H a (.lst (ns.map V.int)) := by
    rcases hS with h | ⟨o, its, n, e, hc, _⟩
    · exact h
    · exact absurd hc (noLists_ok nl e)
  refine ⟨⟨H, []⟩, fun _ => ({ cls := .type "list", data := .fields #[] }, .own 0), [], [.lst (ns.map D.int)], ⟨.refl _, (fun a h => by cases h), List.nodup_nil, .nil, _, _, rfl, ?_, rfl⟩, rfl, ?_⟩
  · unfold Rm
    rw [if_neg (by simp)]
    simp only [Rp]
    exact ⟨a, _, rfl, hr, rps_ints ns⟩
  · have := law ns hl hb
    unfold okTrue at this
    split at this
    · rename_i x os e
      rw [e]
      intro g' H' v o r
      unfold Ret at r
      rw [this] at r
      rw [if_neg (by simp [D.cell])] at r
      simp only [Rp] at r
      rw [r]
      exact k H'
    · exact this.elim
end Vi

namespace Vi
open PySem L2
noncomputable section
open Classical

/-! ### the plain side: how the small language is run by simp -/
theorem ev_ofT {z : Z} {a : D × Bool} : ofT z (some a) = .ok a z := rfl
theorem ev_ofD {z : Z} {a : D} : ofD z (some a) = .ok (a, false) z := rfl
theorem ev_ofB {z : Z} {a : Bool} : ofB z (some a) = .ok (.bl a, false) z := rfl
theorem bin_add {os : Os} {i j : Int} : binD .add os (.int i) (.int j) = some (.int (i + j), false) := rfl
theorem bin_sub {os : Os} {i j : Int} : binD .sub os (.int i) (.int j) = some (.int (i - j), false) := rfl
theorem bin_mul {os : Os} {i j : Int} (h : mulOk i j = true) : binD .mul os (.int i) (.int j) = some (.int (i * j), false) := by simp [binD, h]
theorem bin_mod {os : Os} {i j : Int} (h : 0 < j) : binD .mod os (.int i) (.int j) = some (.int (i % j), false) := by simp [binD, h]
theorem bin_fdiv {os : Os} {i j : Int} (h : 0 < j) (h' : j.natAbs.log2 < 9000) : binD .fdiv os (.int i) (.int j) = some (.int (i / j), false) := by simp [binD, h, h']
theorem log_lt {i : Int} {n : Nat} (h : i.natAbs < 2 ^ n) (hn : 0 < n) : i.natAbs.log2 < n := by
  by_cases h0 : i.natAbs = 0
  · rw [h0]; simpa using hn
  · exact (Nat.log2_lt h0).mpr h
theorem bin_fdivS {os : Os} {i j : Int} (h : 0 < j) (h' : j < 1267650600228229401496703205376) : binD .fdiv os (.int i) (.int j) = some (.int (i / j), false) :=
  bin_fdiv h (Nat.lt_trans (log_lt (n := 100) (by omega) (by decide)) (by decide))
theorem mulOk_s {i j : Int} (h1 : -1267650600228229401496703205376 < i) (h2 : i < 1267650600228229401496703205376) (h3 : -1267650600228229401496703205376 < j) (h4 : j < 1267650600228229401496703205376) : mulOk i j = true := by
  have a := log_lt (i := i) (n := 100) (by omega) (by decide)
  have b := log_lt (i := j) (n := 100) (by omega) (by decide)
  unfold mulOk
  exact decide_eq_true (by omega)
/-- as a script's number may be -/
def Big (i : Int) : Prop := i.natAbs.log2 ≤ 10000000
theorem mulOk_b {i j : Int} (h : Big i) (h3 : -1267650600228229401496703205376 < j) (h4 : j < 1267650600228229401496703205376) : mulOk i j = true := by
  have b := log_lt (i := j) (n := 100) (by omega) (by decide)
  unfold Big at h
  unfold mulOk
  exact decide_eq_true (by omega)
theorem big_of {z : Int} (h : Builtin.Int.intBits z ≤ 1048576) : Big z := by
  unfold Big
  unfold Builtin.Int.intBits at h
  split at h
  · rename_i q
    have : z = 0 := by simpa using q
    subst this
    decide
  · omega
theorem cmp_lt {os : Os} {i j : Int} : cmpD .lt os (.int i) (.int j) = some (decide (i < j)) := rfl
theorem cmp_le {os : Os} {i j : Int} : cmpD .le os (.int i) (.int j) = some (decide (i ≤ j)) := rfl
theorem cmp_gt {os : Os} {i j : Int} : cmpD .gt os (.int i) (.int j) = some (decide (j < i)) := rfl
theorem cmp_ge {os : Os} {i j : Int} : cmpD .ge os (.int i) (.int j) = some (decide (j ≤ i)) := rfl
theorem cmp_eqI {os : Os} {i j : Int} : cmpD .eq os (.int i) (.int j) = some (decide (i = j)) := by
  simp only [cmpD, snap, dep, eqD]
  rw [if_pos ⟨Nat.zero_le _, Nat.zero_le _⟩]
  rfl
theorem cmp_neI {os : Os} {i j : Int} : cmpD .ne os (.int i) (.int j) = some (!decide (i = j)) := by
  simp only [cmpD, snap, dep, eqD]
  rw [if_pos ⟨Nat.zero_le _, Nat.zero_le _⟩]
  rfl
theorem cmp_eqB {os : Os} {i j : Bool} : cmpD .eq os (.bl i) (.bl j) = some (i == j) := by
  simp only [cmpD, snap, dep, eqD]
  rw [if_pos ⟨Nat.zero_le _, Nat.zero_le _⟩]
theorem cmp_neB {os : Os} {i j : Bool} : cmpD .ne os (.bl i) (.bl j) = some (!(i == j)) := by
  simp only [cmpD, snap, dep, eqD]
  rw [if_pos ⟨Nat.zero_le _, Nat.zero_le _⟩]
/-- a list of numbers -/
abbrev nums (l : List Int) : List D := l.map D.int
theorem deps_ints : ∀ l : List Int, deps (nums l) = some 0
  | [] => rfl
  | i :: l => by
    show (match dep (.int i), deps (nums l) with | some a, some b => some (max a b) | _, _ => none) = _
    rw [deps_ints l]; rfl
theorem eqDs_ints : ∀ l m : List Int, eqDs (nums l) (nums m) = decide (l = m)
  | [], [] => by simp [eqDs]
  | [], _ :: _ => by simp [eqDs]
  | _ :: _, [] => by simp [eqDs]
  | i :: l, j :: m => by
    have := eqDs_ints l m
    simp only [nums, List.map_cons, eqDs, eqD] at this ⊢
    rw [this]
    by_cases h1 : i = j <;> by_cases h2 : l = m <;> simp [h1, h2]
theorem cmp_eqL {os : Os} {l m : List Int} : cmpD .eq os (.lst (nums l)) (.lst (nums m)) = some (decide (l = m)) := by
  simp only [cmpD, snap, dep, eqD, deps_ints, Option.map_some, eqDs_ints]
  rw [if_pos ⟨by decide, by decide⟩]
theorem cmp_neL {os : Os} {l m : List Int} : cmpD .ne os (.lst (nums l)) (.lst (nums m)) = some (!decide (l = m)) := by
  simp only [cmpD, snap, dep, eqD, deps_ints, Option.map_some, eqDs_ints]
  rw [if_pos ⟨by decide, by decide⟩]
theorem atI_map {α β : Type} (f : α → β) (xs : List α) (i : Int) : atI (xs.map f) i = (atI xs i).map f := by
  unfold atI
  rw [List.length_map]
  cases ixN xs.length i with
  | none => rfl
  | some j => simp
theorem ix_lst {os : Os} {ds : List D} {k : Int} : ixD os (.lst ds) (.int k) = atI ds k := rfl
theorem ix_tup' {os : Os} {ds : List D} {k : Int} : ixD os (.tup ds) (.int k) = atI ds k := rfl
theorem still_nil {os : Os} : still os [] := fun p h => by cases h
theorem boxes_ints {os : Os} {l : List Int} : boxesOf os [.lst (nums l)] = [] := rfl
theorem mut_app {ds : List D} {y : D} {os : Os} (h : ds.length < 16777216) : mutL "append" ds [y] os = some (ds ++ [y]) := by
  unfold mutL
  rw [if_pos rfl]
  show (if ds.length < sizeLine then some (ds ++ [y]) else none) = _
  rw [if_pos (by unfold sizeLine; omega)]
theorem nums_app (l m : List Int) : nums l ++ nums m = nums (l ++ m) := by simp [nums]
theorem nums_app1 (l : List Int) (i : Int) : nums l ++ [D.int i] = nums (l ++ [i]) := by simp [nums]
/-- a loop that goes to its end -/
theorem forL_all {tg : Tg} {bod : Z → R Z Fl} {os : Os} {P : List Ent → Prop} : ∀ (xs : List D) (env : List Ent), P env →
    (∀ x ∈ xs, ∀ env, P env → ∃ env' f env2, setT tg x env = some env' ∧ bod ⟨env', os⟩ = .ok f ⟨env2, os⟩ ∧ (∀ d fr, f ≠ .ret d fr) ∧ P env2) → ∃ env2, forL tg bod [] xs ⟨env, os⟩ = .ok .next ⟨env2, os⟩ ∧ P env2
  | [], env, p, h => ⟨env, by simp only [forL]; rw [if_pos still_nil], p⟩
  | x :: xs, env, p, h => by
    obtain ⟨env', f, env2, h1, h2, h3, h4⟩ := h x (by simp) env p
    obtain ⟨env3, h5, h6⟩ := forL_all xs env2 h4 fun y hy => h y (List.mem_cons_of_mem _ hy)
    refine ⟨env3, ?_, h6⟩
    simp only [forL]
    rw [if_pos still_nil, setO_of h1]
    simp only [h2, R.bind_ok]
    cases f with
    | ret d fr => exact absurd rfl (h3 d fr)
    | next => exact h5
    | cont => exact h5
theorem call_eq {T : Tb} {k f : Nat} {d : Df} {ds : List D} {os : Os} (h : T.defs[f]? = some d) (hl : ds.length = d.bs.length) : call T (k + 1) f ds os = outF (execB (T.cf k) d.body ⟨envOf d.bs d.m ds, os⟩) := by
  rw [call_succ, h]
  simp only [hl, if_true]
theorem cf_call {T : Tb} {k : Nat} : (T.cf k).call = call T k := rfl
theorem cf_fuel {T : Tb} {k : Nat} : (T.cf k).fuel = T.fuel := rfl
theorem cmp_eqN {os : Os} {l : List Int} : cmpD .eq os (.lst (nums l)) (.lst []) = some (decide (l = [])) := cmp_eqL (m := [])
theorem src_range1 {os : Os} {b : Int} (h : b < 4611686018427387904) (h' : -4611686018427387904 ≤ b) : srcOf os .range [.int b] = some ((List.range b.toNat).map fun i : Nat => D.int i) := by
  simp only [srcOf]
  rw [if_pos (show Rg1 b from ⟨by omega, by omega⟩)]
theorem ixN_nat {n k : Nat} (h : k < n) : ixN n (k : Int) = some k := by
  unfold ixN
  rw [if_pos (by omega), if_pos (by omega)]
  simp
theorem atI_nat {α : Type} {xs : List α} {k : Nat} (h : k < xs.length) : atI xs (k : Int) = some xs[k] := by
  unfold atI
  rw [ixN_nat h]
  simp [h]
theorem atI_last {α : Type} {xs : List α} (h : 0 < xs.length) : atI xs (-1) = some (xs[xs.length - 1]'(by omega)) := by
  unfold atI ixN
  rw [if_neg (by omega), if_pos (by omega)]
  have : ((-1 : Int) + (xs.length : Int)).toNat = xs.length - 1 := by omega
  rw [Option.bind_some, this, List.getElem?_eq_getElem]
theorem len_lst {os : Os} {ds : List D} : fnD .len os [.lst ds] = some (.int ds.length, false) := rfl
/-- what comes behind is not looked at before its time -/
theorem R.bind_congr {σ α β : Type} {r r' : R σ α} {f : α → σ → R σ β} (h : r = r') : r.bind f = r'.bind f := by rw [h]
theorem fn_list {os : Os} {ds : List D} : fnD .list os [.lst ds] = some (.lst ds, true) := rfl
theorem fn_max {os : Os} {i j : Int} : fnD .max os [.int i, .int j] = some (.int (if j > i then j else i), false) := rfl
theorem fn_min {os : Os} {i j : Int} : fnD .min os [.int i, .int j] = some (.int (if j < i then j else i), false) := rfl
theorem is_int {i : Int} {ts : List Ty} {z : Z} : isiZ ts z (.int i) = .ok (.bl (ts.any fun t => isD t (.int i)), false) z := rfl
theorem is_lst {i : List D} {ts : List Ty} {z : Z} : isiZ ts z (.lst i) = .ok (.bl (ts.any fun t => isD t (.lst i)), false) z := rfl
theorem is_tup {i : List D} {ts : List Ty} {z : Z} : isiZ ts z (.tup i) = .ok (.bl (ts.any fun t => isD t (.tup i)), false) z := rfl
theorem is_bl {i : Bool} {ts : List Ty} {z : Z} : isiZ ts z (.bl i) = .ok (.bl (ts.any fun t => isD t (.bl i)), false) z := rfl
theorem is_str {i : Str} {ts : List Ty} {z : Z} : isiZ ts z (.str i) = .ok (.bl (ts.any fun t => isD t (.str i)), false) z := rfl
theorem is_non {ts : List Ty} {z : Z} : isiZ ts z .non = .ok (.bl (ts.any fun t => isD t .non), false) z := rfl
theorem neg_int {i : Int} {z : Z} : negZ z (.int i) = .ok (.int (-i), false) z := rfl
theorem call_ok' {cf : CF} {f : Nat} {ds : List D} {z : Z} {a : D × Bool} {os' : Os} (h : cf.call f ds z.os = .ok a os') : callZ cf f ds z = .ok a { z with os := os' } := by
  unfold callZ; rw [h]; rfl
theorem cmp_eqL' {os : Os} {l m : List Int} : cmpD .eq os (.lst (l.map D.int)) (.lst (m.map D.int)) = some (decide (l = m)) := cmp_eqL
theorem cmp_eqN' {os : Os} {l : List Int} : cmpD .eq os (.lst (l.map D.int)) (.lst []) = some (decide (l = [])) := cmp_eqN
theorem bin_addL {os : Os} {a b : List D} (h : a.length + b.length ≤ 16777216) : binD .add os (.lst a) (.lst b) = some (.lst (a ++ b), true) := by
  simp only [binD, rdL]
  rw [if_pos (show a.length + b.length ≤ sizeLine from h)]
theorem sl_lst {os : Os} {a : List D} {lo hi : Option Int} : slD os (.lst a) lo hi = some (.lst (cutD a lo hi), true) := rfl
theorem cutD_map {α β : Type} (f : α → β) (l : List α) (lo hi : Option Int) : cutD (l.map f) lo hi = (cutD l lo hi).map f := by
  simp only [cutD, List.length_map, List.map_take, List.map_drop]
theorem cutD_mem {α : Type} {l : List α} {lo hi : Option Int} {x : α} (h : x ∈ cutD l lo hi) : x ∈ l := List.mem_of_mem_drop (List.mem_of_mem_take h)
theorem cutD_len {α : Type} {l : List α} {lo hi : Option Int} : (cutD l lo hi).length ≤ l.length := by
  unfold cutD
  rw [List.length_take, List.length_drop]; omega
end
end Vi

namespace Vi
open PySem L2
noncomputable section
open Classical
section
variable {cf : CF} {z : Z} {os : Os}
theorem R.cg {σ α β : Type} {r r' : R σ α} {f : α → σ → R σ β} (h : r = r') : r.bind f = r'.bind f := by rw [h]
@[simp ↓] theorem r_ok {σ α β : Type} {a : α} {s : σ} {f : α → σ → R σ β} : (R.ok a s).bind f = f a s := rfl
@[simp ↓] theorem r_exc {σ α β : Type} {c : Nat} {x : D} {s : σ} {f : α → σ → R σ β} : (R.exc c x s : R σ α).bind f = .exc c x s := rfl
@[simp ↓] theorem r_stuck {σ α β : Type} {f : α → σ → R σ β} : (R.stuck : R σ α).bind f = .stuck := rfl
@[simp ↓] theorem o_t {a : D × Bool} : ofT z (some a) = .ok a z := rfl
@[simp ↓] theorem o_d {a : D} : ofD z (some a) = .ok (a, false) z := rfl
@[simp ↓] theorem o_b {a : Bool} : ofB z (some a) = .ok (.bl a, false) z := rfl
@[simp] theorem e_c {d : D} : evalE cf (.c d) z = .ok (d, false) z := by simp only [evalE]
/-- what a slot has -/
def getZ {α β : Type} (o : Option Ent) (f : D → Bool → R α β) : R α β := match o with
  | some (.val d fr) => f d fr
  | _ => .stuck
@[simp ↓] theorem getZ_some {α β : Type} {d : D} {fr : Bool} {f : D → Bool → R α β} : getZ (some (.val d fr)) f = f d fr := rfl
theorem getZ_cg {α β : Type} {o o' : Option Ent} {f : D → Bool → R α β} (h : o = o') : getZ o f = getZ o' f := by rw [h]
@[simp] theorem e_v {i : Nat} : evalE cf (.v i) z = getZ z.env[i]? fun d fr => if (fr && d.cell) = true then .ok (d, false) { z with env := z.env.set i (.val d false) } else .ok (d, false) z := by
  simp only [evalE]; rfl
def getB {α β : Type} (o : Option Ent) (f : D → R α β) : R α β := match o with
  | some (.val d _) => f d
  | some (.bor d) => f d
  | _ => .stuck
@[simp ↓] theorem getB_val {α β : Type} {d : D} {fr : Bool} {f : D → R α β} : getB (some (.val d fr)) f = f d := rfl
@[simp ↓] theorem getB_bor {α β : Type} {d : D} {f : D → R α β} : getB (some (.bor d)) f = f d := rfl
@[simp] theorem e_b {i : Nat} : evalE cf (.b i) z = getB z.env[i]? fun d => .ok (d, false) z := by simp only [evalE]; rfl
def getW {α β : Type} (o : Option Ent) (f : D → R α β) : R α β := match o with
  | some (.val d fr) => if (fr && d.cell) = true then .stuck else f d
  | some (.bor d) => f d
  | _ => .stuck
@[simp ↓] theorem getW_val {α β : Type} {d : D} {f : D → R α β} : getW (some (.val d false)) f = f d := rfl
@[simp ↓] theorem getW_bor {α β : Type} {d : D} {f : D → R α β} : getW (some (.bor d)) f = f d := rfl
@[simp] theorem e_w {i : Nat} : evalE cf (.w i) z = getW z.env[i]? fun d => .ok (d, false) z := by
  simp only [evalE]; rfl
@[simp] theorem e_tup {es : List E} : evalE cf (.tup es) z = (evalEs cf es z).bind fun ds z => .ok (.tup ds, false) z := by simp only [evalE]
@[simp] theorem e_lst {es : List E} : evalE cf (.lst es) z = (evalEs cf es z).bind fun ds z => .ok (.lst ds, true) z := by simp only [evalE]
@[simp] theorem e_box {e : E} : evalE cf (.box e) z = (evalE cf e z).bind fun a z => boxZ z a := by simp only [evalE]
@[simp] theorem e_bin {o : Bop} {a b : E} : evalE cf (.bin o a b) z = (evalE cf a z).bind fun x z => (evalE cf b z).bind fun y z => ofT z (binD o z.os x.1 y.1) := by simp only [evalE]
@[simp] theorem e_neg {a : E} : evalE cf (.neg a) z = (evalE cf a z).bind fun x z => negZ z x.1 := by simp only [evalE]
def notZ (z : Z) (x : D) : R Z (D × Bool) := match x with
  | .bl b => .ok (.bl (!b), false) z
  | _ => .stuck
@[simp] theorem notZ_bl {b : Bool} : notZ z (.bl b) = .ok (.bl (!b), false) z := rfl
@[simp] theorem e_not {a : E} : evalE cf (.not a) z = (evalE cf a z).bind fun x z => notZ z x.1 := by simp only [evalE]; rfl
@[simp] theorem e_cmp {o : Cop} {a b : E} : evalE cf (.cmp o a b) z = (evalE cf a z).bind fun x z => (evalE cf b z).bind fun y z => ofB z (cmpD o z.os x.1 y.1) := by simp only [evalE]
/-- the two ways behind a test -/
def pickZ {α : Type} (x : D) (t f : Unit → R Z α) : R Z α := match x with
  | .bl true => t ()
  | .bl false => f ()
  | _ => .stuck
@[simp ↓] theorem pick_t {α : Type} {t f : Unit → R Z α} : pickZ (.bl true) t f = t () := rfl
@[simp ↓] theorem pick_f {α : Type} {t f : Unit → R Z α} : pickZ (.bl false) t f = f () := rfl
theorem pick_cg {α : Type} {x x' : D} {t f : Unit → R Z α} (h : x = x') : pickZ x t f = pickZ x' t f := by rw [h]
def pickO {α : Type} (x : Option Bool) (t f : Unit → R Z α) : R Z α := match x with
  | some true => t ()
  | some false => f ()
  | none => .stuck
@[simp ↓] theorem pickO_t {α : Type} {t f : Unit → R Z α} : pickO (some true) t f = t () := rfl
@[simp ↓] theorem pickO_f {α : Type} {t f : Unit → R Z α} : pickO (some false) t f = f () := rfl
theorem pickO_cg {α : Type} {x x' : Option Bool} {t f : Unit → R Z α} (h : x = x') : pickO x t f = pickO x' t f := by rw [h]
@[simp] theorem e_chain {o o' : Cop} {a b c : E} : evalE cf (.chain o o' a b c) z = (evalE cf a z).bind fun x z => (evalE cf b z).bind fun y z => pickO (cmpD o z.os x.1 y.1) (fun _ => (evalE cf c z).bind fun u z => ofB z (cmpD o' z.os y.1 u.1)) (fun _ => .ok (.bl false, false) z) := by
  simp only [evalE]; rfl
@[simp] theorem e_and {a b : E} : evalE cf (.and a b) z = (evalE cf a z).bind fun x z => pickZ x.1 (fun _ => evalE cf b z) (fun _ => .ok (.bl false, false) z) := by simp only [evalE]; rfl
@[simp] theorem e_or {a b : E} : evalE cf (.or a b) z = (evalE cf a z).bind fun x z => pickZ x.1 (fun _ => .ok (.bl true, false) z) (fun _ => evalE cf b z) := by simp only [evalE]; rfl
@[simp] theorem e_ite {c a b : E} : evalE cf (.ite c a b) z = (evalE cf c z).bind fun x z => pickZ x.1 (fun _ => evalE cf a z) (fun _ => evalE cf b z) := by simp only [evalE]; rfl
@[simp] theorem e_ix {a i : E} : evalE cf (.ix a i) z = (evalE cf a z).bind fun x z => (evalE cf i z).bind fun y z => ofD z (ixD z.os x.1 y.1) := by simp only [evalE]
@[simp] theorem e_sl {a : E} {lo hi : List E} : evalE cf (.sl a lo hi) z = (evalE cf a z).bind fun x z => (evalEs cf lo z).bind fun l z => withI (intO l) fun l => (evalEs cf hi z).bind fun h z => withI (intO h) fun h => ofT z (slD z.os x.1 l h) := by simp only [evalE]
@[simp] theorem e_rev {a : E} : evalE cf (.rev a) z = (evalE cf a z).bind fun x z => ofT z ((rdL z.os x.1).map fun ds => (.lst ds.reverse, true)) := by simp only [evalE]
@[simp] theorem e_fld {a : E} {f : Str} : evalE cf (.fld a f) z = (evalE cf a z).bind fun x z => fldZ cf z f x.1 := by simp only [evalE]
@[simp] theorem e_call {f : Nat} {es : List E} : evalE cf (.call f es) z = (evalEs cf es z).bind fun ds z => callZ cf f ds z := by simp only [evalE]
@[simp] theorem e_fn {f : Fn} {es : List E} : evalE cf (.fn f es) z = (evalEs cf es z).bind fun ds z => ofT z (fnD f z.os ds) := by simp only [evalE]
@[simp] theorem e_isi {e : E} {ts : List Ty} : evalE cf (.isi e ts) z = (evalE cf e z).bind fun x z => isiZ ts z x.1 := by simp only [evalE]
@[simp] theorem e_comp0 {elt : E} {tg : Tg} {k : ItK} {src : List E} : evalE cf (.comp elt tg k src []) z = (evalEs cf src z).bind fun ds z => compK tg k yesZ (evalE cf elt) ds z := by simp only [evalE]
@[simp] theorem e_comp1 {elt c : E} {cs : List E} {tg : Tg} {k : ItK} {src : List E} : evalE cf (.comp elt tg k src (c :: cs)) z = (evalEs cf src z).bind fun ds z => compK tg k (evalE cf c) (evalE cf elt) ds z := by simp only [evalE]
@[simp] theorem es_nil : evalEs cf [] z = .ok [] z := by simp only [evalEs]
@[simp] theorem es_cons {e : E} {es : List E} : evalEs cf (e :: es) z = (evalE cf e z).bind fun x z => (evalEs cf es z).bind fun xs z => .ok (x.1 :: xs) z := by simp only [evalEs]
@[simp] theorem x_nm {i : Nat} {e : E} : execS cf (.set (.nm i) e) z = (evalE cf e z).bind fun a z => .ok .next { z with env := z.env.set i (.val a.1 a.2) } := by simp only [execS]
def tpZ (z : Z) (o : Option (List Ent)) : R Z Fl := match o with
  | some env => .ok .next { z with env := env }
  | none => .stuck
@[simp] theorem tpZ_some {env : List Ent} : tpZ z (some env) = .ok .next { z with env := env } := rfl
@[simp] theorem x_tp {ts : List Tg} {e : E} : execS cf (.set (.tp ts) e) z = (evalE cf e z).bind fun a z => tpZ z (setT (.tp ts) a.1 z.env) := by simp only [execS]; rfl
def wrL (z : Z) (x : Nat) (o : Option (List D)) : R Z Fl := match o with
  | some ds' => .ok .next (putL z x ds')
  | none => .stuck
@[simp] theorem wrL_some {x : Nat} {ds : List D} : wrL z x (some ds) = .ok .next (putL z x ds) := rfl
def onL {α β : Type} (o : Option (List D)) (f : List D → R α β) : R α β := match o with
  | some ds => f ds
  | none => .stuck
@[simp ↓] theorem onL_some {α β : Type} {ds : List D} {f : List D → R α β} : onL (some ds) f = f ds := rfl
theorem onL_cg {α β : Type} {o o' : Option (List D)} {f : List D → R α β} (h : o = o') : onL o f = onL o' f := by rw [h]
@[simp] theorem x_setV {x : Nat} {i e : E} : execS cf (.setV x i e) z = (evalE cf e z).bind fun y z => onL (lisAt z x) fun _ => (evalE cf i z).bind fun j z => onL (lisAt z x) fun ds => wrL z x (setC ds j.1 y.1) := by simp only [execS]; rfl
@[simp] theorem x_setSl {x : Nat} {lo hi : List E} {e : E} : execS cf (.setSl x lo hi e) z = (evalE cf e z).bind fun y z => onL (lisAt z x) fun _ => (evalEs cf lo z).bind fun l z => withI (intO l) fun l => (evalEs cf hi z).bind fun h z => withI (intO h) fun h => onL (lisAt z x) fun ds => wrL z x (splO ds l h y.1) := by simp only [execS]; rfl
@[simp] theorem x_mut {m : Str} {x : Nat} {es : List E} : execS cf (.mut m x es) z = onL (lisAt z x) fun _ => (evalEs cf es z).bind fun ys z => onL (lisAt z x) fun ds => wrL z x (mutL m ds ys z.os) := by simp only [execS]; rfl
def onD {α β : Type} (o : Option (List (D × D))) (f : List (D × D) → R α β) : R α β := match o with
  | some ds => f ds
  | none => .stuck
@[simp ↓] theorem onD_some {α β : Type} {ds : List (D × D)} {f : List (D × D) → R α β} : onD (some ds) f = f ds := rfl
def wrD (z : Z) (x : Nat) (o : Option (List (D × D))) : R Z Fl := match o with
  | some ds' => .ok .next (putDc z x ds')
  | none => .stuck
@[simp] theorem wrD_some {x : Nat} {ds : List (D × D)} : wrD z x (some ds) = .ok .next (putDc z x ds) := rfl
def wrB (z : Z) (x : D) (o : Option (List D)) : R Z Fl := match o with
  | some ds' => .ok .next (putB z x ds')
  | none => .stuck
@[simp] theorem wrB_some {x : D} {ds : List D} : wrB z x (some ds) = .ok .next (putB z x ds) := rfl
@[simp] theorem x_setD {x : Nat} {k e : E} : execS cf (.setD x k e) z = (evalE cf e z).bind fun y z => onD (dicAt z x) fun _ => (evalE cf k z).bind fun j z => onD (dicAt z x) fun ds => wrD z x (putKO j.1 y.1 ds) := by simp only [execS]; rfl
@[simp] theorem x_mutE {m : Str} {o : E} {es : List E} : execS cf (.mutE m o es) z = (evalE cf o z).bind fun x z => onL (lisB z x.1) fun _ => (evalEs cf es z).bind fun ys z => onL (lisB z x.1) fun ds => wrB z x.1 (mutL m ds ys z.os) := by simp only [execS]; rfl
@[simp] theorem x_setIx {o i e : E} : execS cf (.setIx o i e) z = (evalE cf e z).bind fun d z => (evalE cf o z).bind fun x z => (evalE cf i z).bind fun j z => stI z x.1 j.1 d.1 := by simp only [execS]
@[simp] theorem x_setF {o e : E} {f : Str} : execS cf (.setF o f e) z = (evalE cf e z).bind fun d z => (evalE cf o z).bind fun x z => stF cf z f x.1 d.1 := by simp only [execS]
@[simp] theorem x_raise {c : Nat} : execS cf (.raise c) z = .exc c (.tup []) z := by simp only [execS]
/-- x.setdefault(k, []).append(e) -/
def sdZ (cf : CF) (e : E) (o : Option (Nat × Z)) : R Z Fl := match o with
  | some (b, z) => (evalE cf e z).bind fun y z => onL (lisB z (.box b)) fun ds => if ds.length < sizeLine then .ok .next (putB z (.box b) (ds ++ [y.1])) else .stuck
  | none => .stuck
@[simp] theorem x_sdApp {x : Nat} {k e : E} : execS cf (.sdApp x k e) z = onD (dicAt z x) fun _ => (evalE cf k z).bind fun j z => sdZ cf e (sdfZ z x j.1) := by simp only [execS]; rfl
@[simp] theorem dicAt_def {x : Nat} : dicAt z x = match z.env[x]? with
  | some (.val (.dct ds) true) => some ds
  | some (.val (.box k) _) => match z.os[k]? with
    | some (.dct ds) => some ds
    | _ => none
  | _ => none := rfl
@[simp] theorem putDc_def {x : Nat} {ds : List (D × D)} : putDc z x ds = match z.env[x]? with
  | some (.val (.box k) _) => { z with os := z.os.set k (.dct ds) }
  | _ => { z with env := z.env.set x (.val (.dct ds) true) } := rfl
@[simp] theorem lisB_def {k : Nat} : lisB z (.box k) = match z.os[k]? with
  | some (.lst ds) => some ds
  | _ => none := rfl
@[simp] theorem putB_def {k : Nat} {ds : List D} : putB z (.box k) ds = { z with os := z.os.set k (.lst ds) } := rfl
@[simp] theorem x_expr {e : E} : execS cf (.expr e) z = (evalE cf e z).bind fun _ z => .ok .next z := by simp only [execS]
@[simp] theorem x_if {c : E} {a b : List S} : execS cf (.ifS c a b) z = (evalE cf c z).bind fun x z => pickZ x.1 (fun _ => execB cf a z) (fun _ => execB cf b z) := by simp only [execS]; rfl
@[simp] theorem x_whl {c : E} {a : List S} : execS cf (.whl c a) z = whlL (evalE cf c) (execB cf a) cf.fuel z := by simp only [execS]
theorem x_for {t : Tg} {k : ItK} {src : List E} {a : List S} (hk : k ≠ .keys) : execS cf (.for t k src a) z = (evalEs cf src z).bind fun ds z => onL (srcOf z.os k ds) fun xs => forL t (execB cf a) (boxesOf z.os ds) xs z := by rw [x_for0 hk]; rfl
@[simp] theorem x_forV {t : Tg} {src : List E} {a : List S} : execS cf (.for t .val src a) z = (evalEs cf src z).bind fun ds z => onL (srcOf z.os .val ds) fun xs => forL t (execB cf a) (boxesOf z.os ds) xs z := x_for (by decide)
@[simp] theorem x_forR {t : Tg} {src : List E} {a : List S} : execS cf (.for t .range src a) z = (evalEs cf src z).bind fun ds z => onL (srcOf z.os .range ds) fun xs => forL t (execB cf a) (boxesOf z.os ds) xs z := x_for (by decide)
@[simp] theorem x_forE {t : Tg} {src : List E} {a : List S} : execS cf (.for t .enum src a) z = (evalEs cf src z).bind fun ds z => onL (srcOf z.os .enum ds) fun xs => forL t (execB cf a) (boxesOf z.os ds) xs z := x_for (by decide)
@[simp] theorem x_forZ {t : Tg} {src : List E} {a : List S} : execS cf (.for t .zip src a) z = (evalEs cf src z).bind fun ds z => onL (srcOf z.os .zip ds) fun xs => forL t (execB cf a) (boxesOf z.os ds) xs z := x_for (by decide)
@[simp] theorem x_forW {t : Tg} {src : List E} {a : List S} : execS cf (.for t .rev src a) z = (evalEs cf src z).bind fun ds z => onL (srcOf z.os .rev ds) fun xs => forL t (execB cf a) (boxesOf z.os ds) xs z := x_for (by decide)
@[simp] theorem x_forK {t : Tg} {e : E} {a : List S} : execS cf (.for t .keys [e] a) z = forD t (evalE cf e) (execB cf a) z := by simp only [execS]
@[simp] theorem x_retv {i : Nat} : execS cf (.ret (.v i)) z = getZ z.env[i]? fun d fr => .ok (.ret d fr) z := by simp only [execS]; rfl
@[simp] theorem x_ret {e : E} (h : ∀ i, e ≠ .v i) : execS cf (.ret e) z = (evalE cf e z).bind fun a z => .ok (.ret a.1 a.2) z := by
  cases e <;> first | (simp only [execS]; done) | exact absurd rfl (h _)
@[simp] theorem x_retN : execS cf .retN z = .ok (.ret .non false) z := by simp only [execS]
@[simp] theorem x_cont : execS cf .cont z = .ok .cont z := by simp only [execS]
@[simp] theorem x_pass : execS cf .pass z = .ok .next z := by simp only [execS]
/-- on, where nothing else was said -/
def onF (f : Fl) (z : Z) (r : Z → R Z Fl) : R Z Fl := match f with
  | .next => r z
  | f => .ok f z
@[simp ↓] theorem onF_n {r : Z → R Z Fl} : onF .next z r = r z := rfl
@[simp ↓] theorem onF_c {r : Z → R Z Fl} : onF .cont z r = .ok .cont z := rfl
@[simp ↓] theorem onF_r {d : D} {fr : Bool} {r : Z → R Z Fl} : onF (.ret d fr) z r = .ok (.ret d fr) z := rfl
@[simp] theorem b_nil : execB cf [] z = .ok .next z := by simp only [execB]
@[simp] theorem b_cons {s : S} {r : List S} : execB cf (s :: r) z = (execS cf s z).bind fun f z => onF f z fun z => execB cf r z := by
  simp only [execB]; rfl
@[simp] theorem env_def {bs : List Bool} {m : Nat} {ds : List D} : envOf bs m ds = entsOf bs ds ++ List.replicate (m - bs.length) .no := rfl
@[simp] theorem ents_n {ds : List D} : entsOf [] ds = [] := rfl
@[simp] theorem ents_nn {bs : List Bool} : entsOf bs [] = [] := by cases bs <;> rfl
@[simp] theorem ents_f {bs : List Bool} {d : D} {ds : List D} : entsOf (false :: bs) (d :: ds) = .val d false :: entsOf bs ds := rfl
@[simp] theorem ents_t {bs : List Bool} {d : D} {ds : List D} : entsOf (true :: bs) (d :: ds) = entOf true d :: entsOf bs ds := rfl
@[simp] theorem ent_l {ds : List D} : entOf true (.lst ds) = .bor (.lst ds) := rfl
@[simp] theorem ent_d {ds : List (D × D)} : entOf true (.dct ds) = .bor (.dct ds) := rfl
@[simp] theorem ent_t {ds : List D} : entOf true (.tup ds) = .val (.tup ds) false := rfl
@[simp] theorem ent_x {i : Nat} : entOf true (.box i) = .val (.box i) false := rfl
@[simp] theorem ent_i {i : Int} : entOf true (.int i) = .val (.int i) false := rfl
@[simp] theorem ent_s {i : Str} : entOf true (.str i) = .val (.str i) false := rfl
@[simp] theorem ent_b {i : Bool} : entOf true (.bl i) = .val (.bl i) false := rfl
@[simp] theorem ent_n : entOf true .non = .val .non false := rfl
@[simp] theorem out_n {z : Z} : outF (.ok .next z) = .ok (.non, false) z.os := rfl
@[simp] theorem out_r {z : Z} {d : D} {fr : Bool} : outF (.ok (.ret d fr) z) = .ok (d, fr) z.os := rfl
@[simp] theorem out_x {z : Z} {c : Nat} {x : D} : outF (.exc c x z) = .exc c x z.os := rfl
@[simp] theorem lisAt_def {x : Nat} : lisAt z x = match z.env[x]? with
  | some (.val (.lst ds) true) => some ds
  | some (.val (.box k) _) => match z.os[k]? with
    | some (.lst ds) => some ds
    | _ => none
  | _ => none := rfl
@[simp] theorem putL_def {x : Nat} {ds : List D} : putL z x ds = match z.env[x]? with
  | some (.val (.box k) _) => { z with os := z.os.set k (.lst ds) }
  | _ => { z with env := z.env.set x (.val (.lst ds) true) } := rfl
@[simp] theorem cell_l {ds : List D} : (D.lst ds).cell = true := rfl
@[simp] theorem cell_d {ds : List (D × D)} : (D.dct ds).cell = true := rfl
@[simp] theorem cell_i {i : Int} : (D.int i).cell = false := rfl
@[simp] theorem cell_s {i : Str} : (D.str i).cell = false := rfl
@[simp] theorem cell_b {i : Bool} : (D.bl i).cell = false := rfl
@[simp] theorem cell_t {i : List D} : (D.tup i).cell = false := rfl
@[simp] theorem cell_n : D.non.cell = false := rfl
@[simp] theorem cell_x {i : Nat} : (D.box i).cell = false := rfl
@[simp] theorem rdL_l {ds : List D} : rdL os (.lst ds) = some ds := rfl
@[simp] theorem setT_n {i : Nat} {d : D} {env : List Ent} : setT (.nm i) d env = some (env.set i (.val d false)) := by simp only [setT]
@[simp] theorem setT_t {ts : List Tg} {ds : List D} {env : List Ent} : setT (.tp ts) (.tup ds) env = setTs ts ds env := by simp only [setT]
@[simp] theorem setTs_n {env : List Ent} : setTs [] [] env = some env := by simp only [setTs]
@[simp] theorem setTs_c {t : Tg} {ts : List Tg} {d : D} {ds : List D} {env : List Ent} : setTs (t :: ts) (d :: ds) env = (setT t d env).bind (setTs ts ds) := by simp only [setTs]
@[simp] theorem withI_s {σ α : Type} {o : Option Int} {f : Option Int → R σ α} : withI (some o) f = f o := rfl
@[simp] theorem intO_n : intO [] = some none := rfl
@[simp] theorem intO_1 {i : Int} : intO [.int i] = some (some i) := rfl
@[simp] theorem yes_def : yesZ z = .ok (.bl true, false) z := rfl
@[simp] theorem c_call {T : Tb} {k : Nat} : (T.cf k).call = call T k := rfl
@[simp] theorem c_fuel {T : Tb} {k : Nat} : (T.cf k).fuel = T.fuel := rfl
@[simp] theorem callZ_def {f : Nat} {ds : List D} : callZ cf f ds z = outZ z (cf.call f ds z.os) := rfl
@[simp ↓] theorem outZ_ok {a : D × Bool} {os : Os} : outZ z (.ok a os) = .ok a { z with os := os } := rfl
@[simp ↓] theorem outZ_exc {c : Nat} {x : D} {os : Os} : outZ z (.exc c x os) = .exc c x { z with os := os } := rfl
@[simp] theorem c_init {T : Tb} {k : Nat} : (T.cf k).init = call T (k - 1) := rfl
@[simp] theorem c_fok {T : Tb} {k : Nat} : (T.cf k).fok = T.fok := rfl
@[simp] theorem c_sub {T : Tb} {k : Nat} : (T.cf k).sub = T.sub := rfl
@[simp] theorem i_int {i : Int} {ts : List Ty} : isiZ ts z (.int i) = .ok (.bl (ts.any fun t => isD t (.int i)), false) z := rfl
@[simp] theorem i_lst {i : List D} {ts : List Ty} : isiZ ts z (.lst i) = .ok (.bl (ts.any fun t => isD t (.lst i)), false) z := rfl
@[simp] theorem i_tup {i : List D} {ts : List Ty} : isiZ ts z (.tup i) = .ok (.bl (ts.any fun t => isD t (.tup i)), false) z := rfl
@[simp] theorem i_bl {i : Bool} {ts : List Ty} : isiZ ts z (.bl i) = .ok (.bl (ts.any fun t => isD t (.bl i)), false) z := rfl
@[simp] theorem i_str {i : Str} {ts : List Ty} : isiZ ts z (.str i) = .ok (.bl (ts.any fun t => isD t (.str i)), false) z := rfl
@[simp] theorem i_non {ts : List Ty} : isiZ ts z .non = .ok (.bl (ts.any fun t => isD t .non), false) z := rfl
@[simp] theorem d_ii {i : Int} : isD .int (.int i) = true := rfl
@[simp] theorem d_ib {i : Bool} : isD .int (.bl i) = true := rfl
@[simp] theorem d_bb {i : Bool} : isD .bool (.bl i) = true := rfl
@[simp] theorem d_bi {i : Int} : isD .bool (.int i) = false := rfl
@[simp] theorem d_ss {i : Str} : isD .str (.str i) = true := rfl
@[simp] theorem d_ll {i : List D} : isD .list (.lst i) = true := rfl
@[simp] theorem d_tt {i : List D} : isD .tuple (.tup i) = true := rfl
@[simp] theorem a_neg {i : Int} : negZ z (.int i) = .ok (.int (-i), false) z := rfl
@[simp] theorem f_list {ds : List D} : fnD .list os [.lst ds] = some (.lst ds, true) := rfl
@[simp] theorem f_max {i j : Int} : fnD .max os [.int i, .int j] = some (.int (if j > i then j else i), false) := rfl
@[simp] theorem f_min {i j : Int} : fnD .min os [.int i, .int j] = some (.int (if j < i then j else i), false) := rfl
@[simp] theorem f_len {ds : List D} : fnD .len os [.lst ds] = some (.int ds.length, false) := rfl
@[simp] theorem f_lent {ds : List D} : fnD .len os [.tup ds] = some (.int ds.length, false) := rfl
@[simp] theorem f_abs {i : Int} : fnD .abs os [.int i] = some (.int (if i < 0 then -i else i), false) := rfl
@[simp] theorem n_add {i j : Int} : binD .add os (.int i) (.int j) = some (.int (i + j), false) := rfl
@[simp] theorem n_sub {i j : Int} : binD .sub os (.int i) (.int j) = some (.int (i - j), false) := rfl
@[simp] theorem n_mul {i j : Int} (h : mulOk i j = true) : binD .mul os (.int i) (.int j) = some (.int (i * j), false) := bin_mul h
@[simp] theorem n_mod {i j : Int} (h : 0 < j) : binD .mod os (.int i) (.int j) = some (.int (i % j), false) := bin_mod h
@[simp] theorem n_fdiv {i j : Int} (h : 0 < j) (h' : j < 1267650600228229401496703205376) : binD .fdiv os (.int i) (.int j) = some (.int (i / j), false) := bin_fdivS h h'
@[simp] theorem q_lt {i j : Int} : cmpD .lt os (.int i) (.int j) = some (decide (i < j)) := rfl
@[simp] theorem q_le {i j : Int} : cmpD .le os (.int i) (.int j) = some (decide (i ≤ j)) := rfl
@[simp] theorem q_gt {i j : Int} : cmpD .gt os (.int i) (.int j) = some (decide (j < i)) := rfl
@[simp] theorem q_ge {i j : Int} : cmpD .ge os (.int i) (.int j) = some (decide (j ≤ i)) := rfl
@[simp] theorem q_eq {i j : Int} : cmpD .eq os (.int i) (.int j) = some (decide (i = j)) := cmp_eqI
@[simp] theorem q_ne {i j : Int} : cmpD .ne os (.int i) (.int j) = some (!decide (i = j)) := cmp_neI
@[simp] theorem q_eqb {i j : Bool} : cmpD .eq os (.bl i) (.bl j) = some (i == j) := cmp_eqB
@[simp] theorem q_neb {i j : Bool} : cmpD .ne os (.bl i) (.bl j) = some (!(i == j)) := cmp_neB
@[simp] theorem q_eql {l m : List Int} : cmpD .eq os (.lst (l.map D.int)) (.lst (m.map D.int)) = some (decide (l = m)) := cmp_eqL
@[simp] theorem q_nel {l m : List Int} : cmpD .ne os (.lst (l.map D.int)) (.lst (m.map D.int)) = some (!decide (l = m)) := cmp_neL
@[simp] theorem y_lst {ds : List D} {k : Int} : ixD os (.lst ds) (.int k) = atI ds k := rfl
@[simp] theorem y_tup {ds : List D} {k : Int} : ixD os (.tup ds) (.int k) = atI ds k := rfl
@[simp] theorem y_sl {a : List D} {lo hi : Option Int} : slD os (.lst a) lo hi = some (.lst (cutD a lo hi), true) := rfl
@[simp] theorem v_lst {l : List D} : srcOf os .val [.lst l] = some l := rfl
@[simp] theorem v_tup {l : List D} : srcOf os .val [.tup l] = some l := rfl
@[simp] theorem bx_l {l : List D} : boxesOf os [.lst l] = [] := rfl
@[simp] theorem bx_t {l : List D} : boxesOf os [.tup l] = [] := rfl
@[simp] theorem bx_i {l : Int} : boxesOf os [.int l] = [] := rfl
@[simp] theorem bx_i2 {l m : Int} : boxesOf os [.int l, .int m] = [] := rfl
@[simp] theorem bx_i3 {l m n : Int} : boxesOf os [.int l, .int m, .int n] = [] := rfl
@[simp] theorem e_dct {cf : CF} {z : Z} {es : List E} : evalE cf (.dct es) z = (evalEs cf es z).bind fun ds z => dspZ z ds := by simp only [evalE]
@[simp] theorem dsp_nil {z : Z} : dspZ z [] = .ok (.dct [], true) z := by simp [dspZ, pairUp]
@[simp] theorem e_mk {cf : CF} {z : Z} {c f : Nat} {es : List E} : evalE cf (.mk c f es) z = (evalEs cf es z).bind fun ds z => mkZ cf c f ds z := by simp only [evalE]
/-- on, where it may be asked -/
def ifZ {α β : Type} (b : Bool) (f : Unit → R α β) : R α β := if b = true then f () else .stuck
@[simp ↓] theorem ifZ_t {α β : Type} {f : Unit → R α β} : ifZ true f = f () := rfl
@[simp] theorem e_meth {cf : CF} {z : Z} {m : Mt} {o : E} {es : List E} : evalE cf (.meth m o es) z = (evalE cf o z).bind fun x z => ifZ (mtOk m z.os x.1) fun _ => (evalEs cf es z).bind fun ys z => ofT z (methD m z.os x.1 ys) := by
  simp only [evalE]; rfl
@[simp] theorem e_om {cf : CF} {z : Z} {c f : Nat} {m : Str} {o : E} {es : List E} : evalE cf (.om c m f o es) z = (evalE cf o z).bind fun x z => ifZ (recZ c m z x.1) fun _ => (evalEs cf es z).bind fun ds z => callZ cf f (x.1 :: ds) z := by
  simp only [evalE]; rfl
@[simp] theorem e_get {cf : CF} {z : Z} {o k d : E} : evalE cf (.get o k d) z = (evalE cf o z).bind fun x z => ifZ (dctO z.os x.1).isSome fun _ => (evalE cf k z).bind fun y z => (evalE cf d z).bind fun u z => getZ2 z x.1 y.1 u.1 := by
  simp only [evalE]; rfl
@[simp] theorem e_popD {cf : CF} {z : Z} {o k d : E} : evalE cf (.popD o k d) z = (evalE cf o z).bind fun x z => ifZ (dctO z.os x.1).isSome fun _ => (evalE cf k z).bind fun y z => (evalE cf d z).bind fun u z => popZ z x.1 y.1 u.1 := by
  simp only [evalE]; rfl
@[simp] theorem mtOk_j {os : Os} {a : Str} : mtOk .join os (.str a) = true := rfl
@[simp] theorem mtOk_f {os : Os} {a : Str} : mtOk .find os (.str a) = true := rfl
@[simp] theorem mtOk_s {os : Os} {a : Str} : mtOk .split os (.str a) = true := rfl
@[simp] theorem mtOk_i {os : Os} {a : List D} : mtOk .index os (.lst a) = true := rfl
end
end
end Vi

namespace Vi
open PySem L2
noncomputable section
open Classical

/-! ### more of the plain side -/
theorem log2_mono {a b : Nat} (h : a ≤ b) : a.log2 ≤ b.log2 := by
  by_cases h0 : a = 0
  · subst h0; simp
  · have : a < 2 ^ (b.log2 + 1) := Nat.lt_of_le_of_lt h Nat.lt_log2_self
    have := (Nat.log2_lt h0).mpr this
    omega
theorem big_le {i j : Int} (h : Big j) (h' : i.natAbs ≤ j.natAbs) : Big i := Nat.le_trans (log2_mono h') h
theorem big_div {i : Int} (h : Big i) (n : Int) : Big (i / n) := big_le h (Int.natAbs_ediv_le_natAbs _ _)
theorem big_small {i : Int} (h1 : -1267650600228229401496703205376 < i) (h2 : i < 1267650600228229401496703205376) : Big i := by
  have := log_lt (i := i) (n := 100) (by omega) (by decide)
  unfold Big; omega
theorem mulOk_bb {i j : Int} (h : Big i) (h' : j.natAbs.log2 < 10000) : mulOk i j = true := by
  unfold Big at h
  unfold mulOk
  exact decide_eq_true (by omega)
theorem bin_pow {os : Os} {i j : Int} (h : PowOk i j) : binD .pow os (.int i) (.int j) = some (.int (i ^ j.toNat), false) := by
  simp only [binD]; rw [if_pos h]
@[simp] theorem n_pow {os : Os} {i : Int} {j : Nat} (h1 : j ≤ 1000) (h2 : i.natAbs < 18446744073709551616) : binD .pow os (.int i) (.int (OfNat.ofNat j)) = some (.int (i ^ j), false) := by
  have : (OfNat.ofNat j : Int) = (j : Int) := rfl
  rw [this, bin_pow ⟨by omega, by omega, by omega⟩]
  rfl
theorem deps_nums (l : List Int) : deps (l.map D.int) = some 0 := deps_ints l
theorem eqDs_nums (l m : List Int) : eqDs (l.map D.int) (m.map D.int) = decide (l = m) := eqDs_ints l m
@[simp] theorem q_eqt {os : Os} {l m : List Int} : cmpD .eq os (.tup (l.map D.int)) (.tup (m.map D.int)) = some (decide (l = m)) := by
  simp only [cmpD, snap, dep, eqD, deps_nums, Option.map_some, eqDs_nums]
  rw [if_pos ⟨by decide, by decide⟩]
@[simp] theorem q_net {os : Os} {l m : List Int} : cmpD .ne os (.tup (l.map D.int)) (.tup (m.map D.int)) = some (!decide (l = m)) := by
  simp only [cmpD, snap, dep, eqD, deps_nums, Option.map_some, eqDs_nums]
  rw [if_pos ⟨by decide, by decide⟩]
@[simp] theorem q_eqs {os : Os} {s t : Str} : cmpD .eq os (.str s) (.str t) = some (decide (s = t)) := by
  simp only [cmpD, snap, dep, eqD]
  rw [if_pos ⟨by decide, by decide⟩]
@[simp] theorem q_nes {os : Os} {s t : Str} : cmpD .ne os (.str s) (.str t) = some (!decide (s = t)) := by
  simp only [cmpD, snap, dep, eqD]
  rw [if_pos ⟨by decide, by decide⟩]
theorem cut_to {α : Type} {l : List α} {k : Nat} (h : k ≤ l.length) : cutD l none (some (k : Int)) = l.take k := by
  unfold cutD
  rw [HT.sIx_none, HT.sIx_nat, Nat.min_eq_left h]
  simp
theorem cut_from {α : Type} {l : List α} {k : Nat} (h : k ≤ l.length) : cutD l (some (k : Int)) none = l.drop k := by
  unfold cutD
  rw [HT.sIx_none, HT.sIx_nat, Nat.min_eq_left h, List.take_of_length_le (by rw [List.length_drop]; omega)]
theorem cut_toL {α : Type} {l : List α} {k : Nat} : cutD l none (some (k : Int)) = l.take k := by
  unfold cutD
  rw [HT.sIx_none, HT.sIx_nat]
  simp only [List.drop_zero, Nat.sub_zero]
  by_cases h : k ≤ l.length
  · rw [Nat.min_eq_left h]
  · rw [Nat.min_eq_right (by omega), List.take_of_length_le (Nat.le_refl _), List.take_of_length_le (by omega)]
/-! a comprehension without a test, over one name -/
theorem compL_nm {i : Nat} {cf : CF} {elt : E} {os : Os} {f : D → D} : ∀ (xs acc : List D) (env : List Ent), acc.length + xs.length < 16777216 → env[i]? = some .no →
    (∀ x ∈ xs, ∃ fr, evalE cf elt ⟨env.set i (.val x false), os⟩ = .ok (f x, fr) ⟨env.set i (.val x false), os⟩) →
    compL (.nm i) (eltIf yesZ (evalE cf elt)) [] xs acc ⟨env, os⟩ = .ok (acc ++ xs.map f) ⟨env, os⟩
  | [], acc, env, _, _, _ => by
    simp only [compL]
    rw [if_pos still_nil]; simp
  | x :: xs, acc, env, hl, hn, h => by
    obtain ⟨fr, e⟩ := h x (by simp)
    have hi : i < env.length := (List.getElem?_eq_some_iff.mp hn).1
    have hw : wipeE (env.set i (.val x false)) (Tg.slots (.nm i)) = env := by
      simp only [Tg.slots, wipeE, List.set_set]
      apply List.ext_getElem?
      intro j
      by_cases hj : i = j
      · subst hj; rw [List.getElem?_set_self hi, hn]
      · rw [List.getElem?_set_ne hj]
    have ih := compL_nm xs (acc ++ [f x]) env (by simp only [List.length_append, List.length_cons, List.length_nil] at hl ⊢; omega) hn fun y hy => h y (List.mem_cons_of_mem _ hy)
    simp only [compL]
    rw [if_pos still_nil]
    simp only [setT]
    have ev : eltIf yesZ (evalE cf elt) ⟨env.set i (.val x false), os⟩ = .ok (some (f x)) ⟨env.set i (.val x false), os⟩ := by
      simp only [eltIf, yesZ, R.bind_ok, e]
    rw [ev]
    simp only
    rw [if_pos (show acc.length < sizeLine from by unfold sizeLine; simp only [List.length_cons] at hl; omega), hw, ih]
    simp
theorem compK_nm {i : Nat} {cf : CF} {elt : E} {k : ItK} {ds xs : List D} {z : Z} {f : D → D} (h1 : srcOf z.os k ds = some xs) (h2 : boxesOf z.os ds = []) (hl : xs.length < 16777216) (hi : i < z.env.length)
    (h : ∀ x ∈ xs, ∃ fr, evalE cf elt ⟨z.env.set i (.val x false), z.os⟩ = .ok (f x, fr) ⟨z.env.set i (.val x false), z.os⟩) :
    compK (.nm i) k yesZ (evalE cf elt) ds z = .ok (.lst (xs.map f), true) ⟨backE z.env (z.env.set i .no) [i], z.os⟩ := by
  unfold compK
  rw [h1, h2]
  simp only [compZ, Tg.slots, wipeE]
  rw [compL_nm (f := f) xs [] (z.env.set i .no) (by simpa using hl) (by rw [List.getElem?_set_self hi]) fun x hx => by
    obtain ⟨fr, e⟩ := h x hx
    exact ⟨fr, by rw [List.set_set]; exact e⟩]
  simp
@[simp] theorem back_def {old env : List Ent} {i : Nat} : backE old env [i] = env.set i (match old[i]? with
    | some e => if e.owns = true then .no else e
    | none => .no) := rfl
/-! sums, least and greatest -/
def mn : List Int → Int
  | [] => 0
  | i :: r => r.foldl (fun a b => if b < a then b else a) i
def mx : List Int → Int
  | [] => 0
  | i :: r => r.foldl (fun a b => if b > a then b else a) i
theorem intsO_nums : ∀ l : List Int, intsO (l.map D.int) = some l
  | [] => rfl
  | i :: l => by simp [intsO, intsO_nums l]
@[simp] theorem f_sum {os : Os} {l : List Int} : fnD .sum os [.lst (l.map D.int)] = some (.int l.sum, false) := by
  simp only [fnD, rdL, Option.bind_some, intsO_nums]
@[simp] theorem f_minL {os : Os} {l : List Int} (h : l ≠ []) : fnD .min os [.lst (l.map D.int)] = some (.int (mn l), false) := by
  cases l with
  | nil => exact absurd rfl h
  | cons i r => simp only [fnD, rdL, Option.bind_some, intsO_nums, mn]
@[simp] theorem f_maxL {os : Os} {l : List Int} (h : l ≠ []) : fnD .max os [.lst (l.map D.int)] = some (.int (mx l), false) := by
  cases l with
  | nil => exact absurd rfl h
  | cons i r => simp only [fnD, rdL, Option.bind_some, intsO_nums, mx]
def lo2 (a b : Int) : Int := if b < a then b else a
def hi2 (a b : Int) : Int := if b > a then b else a
theorem lo2_assoc (i j x : Int) : lo2 (lo2 i j) x = lo2 i (lo2 j x) := by unfold lo2; repeat' split <;> (try omega)
theorem hi2_assoc (i j x : Int) : hi2 (hi2 i j) x = hi2 i (hi2 j x) := by unfold hi2; repeat' split <;> (try omega)
theorem lo2_fold : ∀ (r : List Int) (i j : Int), r.foldl lo2 (lo2 i j) = lo2 i (r.foldl lo2 j)
  | [], i, j => rfl
  | x :: r, i, j => by rw [List.foldl_cons, List.foldl_cons, lo2_assoc, lo2_fold r i]
theorem hi2_fold : ∀ (r : List Int) (i j : Int), r.foldl hi2 (hi2 i j) = hi2 i (r.foldl hi2 j)
  | [], i, j => rfl
  | x :: r, i, j => by rw [List.foldl_cons, List.foldl_cons, hi2_assoc, hi2_fold r i]
theorem lo2_comm (i j : Int) : lo2 i j = lo2 j i := by unfold lo2; repeat' split <;> (try omega)
theorem hi2_comm (i j : Int) : hi2 i j = hi2 j i := by unfold hi2; repeat' split <;> (try omega)
theorem mn_app {a b : List Int} (ha : a ≠ []) (hb : b ≠ []) : mn (a ++ b) = lo2 (mn a) (mn b) := by
  cases a with
  | nil => exact absurd rfl ha
  | cons i r =>
    cases b with
    | nil => exact absurd rfl hb
    | cons j s =>
      show (r ++ j :: s).foldl lo2 i = lo2 (r.foldl lo2 i) (s.foldl lo2 j)
      rw [List.foldl_append, List.foldl_cons, lo2_fold]
theorem mx_app {a b : List Int} (ha : a ≠ []) (hb : b ≠ []) : mx (a ++ b) = hi2 (mx a) (mx b) := by
  cases a with
  | nil => exact absurd rfl ha
  | cons i r =>
    cases b with
    | nil => exact absurd rfl hb
    | cons j s =>
      show (r ++ j :: s).foldl hi2 i = hi2 (r.foldl hi2 i) (s.foldl hi2 j)
      rw [List.foldl_append, List.foldl_cons, hi2_fold]
/-- a loop by what holds ahead of its i-th turn -/
theorem forL_inv {tg : Tg} {bod : Z → R Z Fl} {os : Os} (P : Nat → List Ent → Prop) (xs : List D) (env : List Ent) (h0 : P 0 env)
    (h : ∀ (i : Nat) (hi : i < xs.length) (env : List Ent), P i env → ∃ env' f env2, setT tg xs[i] env = some env' ∧ bod ⟨env', os⟩ = .ok f ⟨env2, os⟩ ∧ (∀ d fr, f ≠ .ret d fr) ∧ P (i + 1) env2) :
    ∃ env2, forL tg bod [] xs ⟨env, os⟩ = .ok .next ⟨env2, os⟩ ∧ P xs.length env2 := by
  have go : ∀ (n i : Nat) (env : List Ent), n = xs.length - i → i ≤ xs.length → P i env → ∃ env2, forL tg bod [] (xs.drop i) ⟨env, os⟩ = .ok .next ⟨env2, os⟩ ∧ P xs.length env2 := by
    intro n
    induction n with
    | zero =>
      intro i env hn hi p
      have : i = xs.length := by omega
      subst this
      exact ⟨env, by rw [List.drop_length]; simp only [forL]; rw [if_pos still_nil], p⟩
    | succ n ih =>
      intro i env hn hi p
      have hlt : i < xs.length := by omega
      obtain ⟨env', f, env2, h1, h2, h3, h4⟩ := h i hlt env p
      obtain ⟨env3, h5, h6⟩ := ih (i + 1) env2 (by omega) (by omega) h4
      refine ⟨env3, ?_, h6⟩
      rw [List.drop_eq_getElem_cons hlt]
      simp only [forL]
      rw [if_pos still_nil, setO_of h1]
      simp only [h2, R.bind_ok]
      cases f with
      | ret d fr => exact absurd rfl (h3 d fr)
      | next => exact h5
      | cont => exact h5
  exact go xs.length 0 env (by omega) (by omega) h0
theorem still_n {os : Os} : still os [] = True := eq_true still_nil
@[simp] theorem forL_nil {tg : Tg} {bod : Z → R Z Fl} {z : Z} : forL tg bod [] [] z = .ok .next z := by
  simp only [forL]; rw [if_pos still_nil]
def goL (f : Fl) (z : Z) (r : Z → R Z Fl) : R Z Fl := match f with
  | .ret d fr => .ok (.ret d fr) z
  | _ => r z
@[simp ↓] theorem goL_n {r : Z → R Z Fl} {z : Z} : goL .next z r = r z := rfl
@[simp ↓] theorem goL_c {r : Z → R Z Fl} {z : Z} : goL .cont z r = r z := rfl
@[simp ↓] theorem goL_r {d : D} {fr : Bool} {r : Z → R Z Fl} {z : Z} : goL (.ret d fr) z r = .ok (.ret d fr) z := rfl
/-- one turn -/
theorem forL_cons {tg : Tg} {bod : Z → R Z Fl} {x : D} {xs : List D} {z : Z} {env' : List Ent} (h : setT tg x z.env = some env') : forL tg bod [] (x :: xs) z = (bod ⟨env', z.os⟩).bind fun f z' => goL f z' fun z' => forL tg bod [] xs z' := by
  simp only [forL]; rw [if_pos still_nil, setO_of h]; rfl
@[simp] theorem forL_nm {i : Nat} {bod : Z → R Z Fl} {x : D} {xs : List D} {z : Z} : forL (.nm i) bod [] (x :: xs) z = (bod ⟨z.env.set i (.val x false), z.os⟩).bind fun f z' => goL f z' fun z' => forL (.nm i) bod [] xs z' :=
  forL_cons (by simp only [setT])
theorem src_range2 {os : Os} {a b : Int} (h : Rg2 a b) : srcOf os .range [.int a, .int b] = some ((List.range (b - a).toNat).map fun i : Nat => D.int (a + i)) := by
  simp only [srcOf]
  rw [if_pos h]
theorem big_succ {z : Int} (h : Builtin.Int.intBits z ≤ 1048576) : Big (z + 1) := by
  have hb : z.natAbs.log2 ≤ 1048576 := by
    unfold Builtin.Int.intBits at h
    split at h
    · rename_i q
      have : z = 0 := by simpa using q
      subst this
      decide
    · omega
  have h1 : (z + 1).natAbs ≤ z.natAbs + 1 := by omega
  have h2 : (z.natAbs + 1).log2 < z.natAbs.log2 + 2 := by
    refine (Nat.log2_lt (by omega)).mpr ?_
    have a : z.natAbs < 2 ^ (z.natAbs.log2 + 1) := Nat.lt_log2_self
    have b : 2 ^ (z.natAbs.log2 + 2) = 2 ^ (z.natAbs.log2 + 1) * 2 := Nat.pow_succ ..
    omega
  unfold Big
  have := log2_mono h1
  omega
theorem bits_getD {ns : List Int} (h : ∀ z ∈ ns, Builtin.Int.intBits z ≤ 1048576) (n : Nat) : Builtin.Int.intBits (ns.getD n 0) ≤ 1048576 := by
  by_cases hn : n < ns.length
  · rw [List.getD_eq_getElem?_getD, List.getElem?_eq_getElem hn]; exact h _ (List.getElem_mem hn)
  · rw [List.getD_eq_getElem?_getD, List.getElem?_eq_none (by omega)]; decide
end
end Vi

namespace Vi
open PySem L2
noncomputable section
open Classical

/-! ### the plain side: searches, comprehensions with a test, texts -/
/-- a loop that ends at the first bad one -/
theorem forL_search {tg : Tg} {bod : Z → R Z Fl} {os : Os} {P : List Ent → Prop} {bad : D → Bool} {d : D} {fr : Bool} : ∀ (xs : List D) (env : List Ent), P env →
    (∀ x ∈ xs, bad x = false → ∀ env, P env → ∃ env' f env2, setT tg x env = some env' ∧ bod ⟨env', os⟩ = .ok f ⟨env2, os⟩ ∧ (∀ d fr, f ≠ .ret d fr) ∧ P env2) →
    (∀ x ∈ xs, bad x = true → ∀ env, P env → ∃ env' env2, setT tg x env = some env' ∧ bod ⟨env', os⟩ = .ok (.ret d fr) ⟨env2, os⟩) →
    ∃ env2, forL tg bod [] xs ⟨env, os⟩ = .ok (if xs.any bad = true then .ret d fr else .next) ⟨env2, os⟩ ∧ (xs.any bad = false → P env2)
  | [], env, p, _, _ => ⟨env, by simp, fun _ => p⟩
  | x :: xs, env, p, h1, h2 => by
    cases hb : bad x with
    | true =>
      obtain ⟨env', env2, e1, e2⟩ := h2 x (by simp) hb env p
      refine ⟨env2, ?_, fun q => by simp [hb] at q⟩
      rw [forL_cons e1]
      simp only [e2, R.bind_ok, goL, List.any_cons, hb, Bool.true_or, if_true]
    | false =>
      obtain ⟨env', f, env2, e1, e2, e3, e4⟩ := h1 x (by simp) hb env p
      obtain ⟨env3, e5, e6⟩ := forL_search xs env2 e4 (fun y hy => h1 y (List.mem_cons_of_mem _ hy)) fun y hy => h2 y (List.mem_cons_of_mem _ hy)
      refine ⟨env3, ?_, fun q => e6 (by simpa [hb] using q)⟩
      rw [forL_cons e1]
      simp only [e2, R.bind_ok, List.any_cons, hb, Bool.false_or]
      cases f with
      | ret d fr => exact absurd rfl (e3 d fr)
      | next => exact e5
      | cont => exact e5
theorem compL_if {i : Nat} {cf : CF} {c elt : E} {os : Os} {t : D → Bool} {f : D → D} : ∀ (xs acc : List D) (env : List Ent), acc.length + xs.length < 16777216 → env[i]? = some .no →
    (∀ x ∈ xs, ∃ fr, evalE cf c ⟨env.set i (.val x false), os⟩ = .ok (.bl (t x), fr) ⟨env.set i (.val x false), os⟩) →
    (∀ x ∈ xs, t x = true → ∃ fr, evalE cf elt ⟨env.set i (.val x false), os⟩ = .ok (f x, fr) ⟨env.set i (.val x false), os⟩) →
    compL (.nm i) (eltIf (evalE cf c) (evalE cf elt)) [] xs acc ⟨env, os⟩ = .ok (acc ++ (xs.filter t).map f) ⟨env, os⟩
  | [], acc, env, _, _, _, _ => by
    simp only [compL]
    rw [if_pos still_nil]; simp
  | x :: xs, acc, env, hl, hn, hc, h => by
    have hi : i < env.length := (List.getElem?_eq_some_iff.mp hn).1
    have hw : wipeE (env.set i (.val x false)) (Tg.slots (.nm i)) = env := by
      simp only [Tg.slots, wipeE, List.set_set]
      apply List.ext_getElem?
      intro j
      by_cases hj : i = j
      · subst hj; rw [List.getElem?_set_self hi, hn]
      · rw [List.getElem?_set_ne hj]
    obtain ⟨fr, ec⟩ := hc x (by simp)
    simp only [List.length_cons] at hl
    cases ht : t x with
    | true =>
      obtain ⟨fr2, e⟩ := h x (by simp) ht
      have ih := compL_if xs (acc ++ [f x]) env (by simp only [List.length_append, List.length_singleton]; omega) hn (fun y hy => hc y (List.mem_cons_of_mem _ hy)) fun y hy => h y (List.mem_cons_of_mem _ hy)
      have ev : eltIf (evalE cf c) (evalE cf elt) ⟨env.set i (.val x false), os⟩ = .ok (some (f x)) ⟨env.set i (.val x false), os⟩ := by
        simp only [eltIf, ec, ht, R.bind_ok, e]
      simp only [compL]
      rw [if_pos still_nil]
      simp only [setT, ev]
      rw [if_pos (show acc.length < sizeLine from by unfold sizeLine; omega), hw, ih]
      simp [ht]
    | false =>
      have ih := compL_if xs acc env (by omega) hn (fun y hy => hc y (List.mem_cons_of_mem _ hy)) fun y hy => h y (List.mem_cons_of_mem _ hy)
      have ev : eltIf (evalE cf c) (evalE cf elt) ⟨env.set i (.val x false), os⟩ = .ok none ⟨env.set i (.val x false), os⟩ := by
        simp only [eltIf, ec, ht, R.bind_ok]
      simp only [compL]
      rw [if_pos still_nil]
      simp only [setT, ev]
      rw [hw, ih]
      simp [ht]
theorem compK_if {i : Nat} {cf : CF} {c elt : E} {k : ItK} {ds xs : List D} {z : Z} {t : D → Bool} {f : D → D} (h1 : srcOf z.os k ds = some xs) (h2 : boxesOf z.os ds = []) (hl : xs.length < 16777216) (hi : i < z.env.length)
    (hc : ∀ x ∈ xs, ∃ fr, evalE cf c ⟨z.env.set i (.val x false), z.os⟩ = .ok (.bl (t x), fr) ⟨z.env.set i (.val x false), z.os⟩)
    (h : ∀ x ∈ xs, t x = true → ∃ fr, evalE cf elt ⟨z.env.set i (.val x false), z.os⟩ = .ok (f x, fr) ⟨z.env.set i (.val x false), z.os⟩) :
    compK (.nm i) k (evalE cf c) (evalE cf elt) ds z = .ok (.lst ((xs.filter t).map f), true) ⟨backE z.env (z.env.set i .no) [i], z.os⟩ := by
  unfold compK
  rw [h1, h2]
  simp only [compZ, Tg.slots, wipeE]
  rw [compL_if (t := t) (f := f) xs [] (z.env.set i .no) (by simpa using hl) (by rw [List.getElem?_set_self hi]) (fun x hx => by
    obtain ⟨fr, e⟩ := hc x hx
    exact ⟨fr, by rw [List.set_set]; exact e⟩) fun x hx ht => by
    obtain ⟨fr, e⟩ := h x hx ht
    exact ⟨fr, by rw [List.set_set]; exact e⟩]
  simp
/-! texts -/
@[simp] theorem v_str {os : Os} {s : Str} : srcOf os .val [.str s] = some (signs s) := rfl
@[simp] theorem bx_s {os : Os} {l : Str} : boxesOf os [.str l] = [] := rfl
theorem signs_len (s : Str) : (signs s).length = s.length := by simp [signs, Str.length]
@[simp] theorem f_lens {os : Os} {s : Str} (h : s.length ≤ 16777216) : fnD .len os [.str s] = some (.int s.length, false) := by
  simp only [fnD]; rw [if_pos (show s.length ≤ sizeLine from h)]
@[simp] theorem n_adds {os : Os} {s t : Str} (h : s.length + t.length ≤ 16777216) : binD .add os (.str s) (.str t) = some (.str (s ++ t), false) := by
  simp only [binD]; rw [if_pos (show s.length + t.length ≤ sizeLine from h)]
theorem len_app (s t : Str) : (s ++ t).length = s.length + t.length := by
  show (s.cps ++ t.cps).size = s.cps.size + t.cps.size
  exact Array.size_append
/-- the signs from .. to .. -/
def cutS (s : Str) (lo hi : Option Int) : Str := ⟨(cutD s.cps.toList lo hi).toArray⟩
theorem cutS_len (s : Str) (lo hi : Option Int) : (cutS s lo hi).length ≤ s.length := by
  have := cutD_len (l := s.cps.toList) (lo := lo) (hi := hi)
  simpa [cutS, Str.length] using this
@[simp] theorem y_sls {os : Os} {s : Str} {lo hi : Option Int} (h : s.length ≤ 16777216) : slD os (.str s) lo hi = some (.str (cutS s lo hi), false) := by
  simp only [slD]; rw [if_pos (show s.length ≤ sizeLine from h)]; rfl
/-- the i-th sign -/
theorem ix_str' {os : Os} {s : Str} {k : Int} (h : s.length ≤ 16777216) (h0 : 0 ≤ k) (h1 : k < s.length) : ∃ c, ixD os (.str s) (.int k) = some (.str ⟨#[c]⟩) := by
  obtain ⟨j, rfl⟩ : ∃ j : Nat, k = j := ⟨k.toNat, by omega⟩
  have hj : j < s.cps.toList.length := by simpa [Str.length] using h1
  refine ⟨s.cps.toList[j], ?_⟩
  simp only [ixD]
  rw [if_pos (show s.length ≤ sizeLine from h), atI_nat hj]; rfl
@[simp] theorem q_ins {os : Os} {s t : Str} : cmpD .isin os (.str s) (.str t) = some (hasS t s) := rfl
@[simp] theorem q_nins {os : Os} {s t : Str} : cmpD .notin os (.str s) (.str t) = some (!hasS t s) := rfl
/-! lists of truths -/
theorem deps_bls : ∀ l : List Bool, deps (l.map D.bl) = some 0
  | [] => rfl
  | i :: l => by
    show (match dep (.bl i), deps (l.map D.bl) with | some a, some b => some (max a b) | _, _ => none) = _
    rw [deps_bls l]; rfl
theorem eqDs_bls : ∀ l m : List Bool, eqDs (l.map D.bl) (m.map D.bl) = decide (l = m)
  | [], [] => by simp [eqDs]
  | [], _ :: _ => by simp [eqDs]
  | _ :: _, [] => by simp [eqDs]
  | i :: l, j :: m => by
    simp only [List.map_cons, eqDs, eqD, eqDs_bls l m]
    by_cases h1 : i = j <;> by_cases h2 : l = m <;> simp [h1, h2]
theorem q_eqbl {os : Os} {l m : List Bool} : cmpD .eq os (.lst (l.map D.bl)) (.lst (m.map D.bl)) = some (decide (l = m)) := by
  simp only [cmpD, snap, dep, eqD, deps_bls, Option.map_some, eqDs_bls]
  rw [if_pos ⟨by decide, by decide⟩]
theorem q_nebl {os : Os} {l m : List Bool} : cmpD .ne os (.lst (l.map D.bl)) (.lst (m.map D.bl)) = some (!decide (l = m)) := by
  simp only [cmpD, snap, dep, eqD, deps_bls, Option.map_some, eqDs_bls]
  rw [if_pos ⟨by decide, by decide⟩]
/-! a list of texts and the empty list -/
theorem deps_strs : ∀ l : List Str, deps (l.map D.str) = some 0
  | [] => rfl
  | i :: l => by
    show (match dep (.str i), deps (l.map D.str) with | some a, some b => some (max a b) | _, _ => none) = _
    rw [deps_strs l]; rfl
theorem q_eqsn {os : Os} {l : List Str} : cmpD .eq os (.lst (l.map D.str)) (.lst []) = some l.isEmpty := by
  simp only [cmpD, snap, dep, eqD, deps_strs, Option.map_some, deps]
  rw [if_pos ⟨by decide, by decide⟩]
  cases l <;> simp [eqDs]
theorem q_nesn {os : Os} {l : List Str} : cmpD .ne os (.lst (l.map D.str)) (.lst []) = some (!l.isEmpty) := by
  simp only [cmpD, snap, dep, eqD, deps_strs, Option.map_some, deps]
  rw [if_pos ⟨by decide, by decide⟩]
  cases l <;> simp [eqDs]
@[simp] theorem q_nn {os : Os} : cmpD .ne os (.lst []) (.lst []) = some false := by
  simp only [cmpD, snap, dep, eqD, deps, Option.map_some, eqDs]
  rw [if_pos ⟨by decide, by decide⟩]; rfl
@[simp] theorem q_ee {os : Os} : cmpD .eq os (.lst []) (.lst []) = some true := by
  simp only [cmpD, snap, dep, eqD, deps, Option.map_some, eqDs]
  rw [if_pos ⟨by decide, by decide⟩]
theorem strsO_strs : ∀ l : List Str, strsO (l.map D.str) = some l
  | [] => rfl
  | i :: l => by simp [strsO, strsO_strs l]
theorem meth_join {os : Os} {a : Str} {l : List Str} (h : JoinSz a l) : methD .join os (.str a) [.lst (l.map D.str)] = some (.str (Txt.join a l), false) := by
  simp only [methD, seqO, rdL, Option.bind_some, strsO_strs]
  rw [if_pos h]
theorem join_len (a : Str) (l : List Str) : (Txt.join a l).length ≤ (l.map (·.length)).sum + l.length * a.length := by
  rw [show Txt.join a l = Str.join a l from TL.join_eq a l]
  exact StrLaws.join_length_le a l
end
end Vi

namespace Vi
open PySem L2
noncomputable section
open Classical

/-! ### the plain side: things in boxes -/
section
variable {cf : CF} {z : Z} {os : Os}
def fldX (cf : CF) (z : Z) (f : Str) (o : Option Bx) : R Z (D × Bool) := match o with
  | some (.ins c fs) => if cf.fok c f = true then ofD z (fs.lookup f) else .stuck
  | _ => .stuck
@[simp] theorem fldZ_box {f : Str} {i : Nat} : fldZ cf z f (.box i) = fldX cf z f z.os[i]? := rfl
def stX (cf : CF) (z : Z) (f : Str) (d : D) (i : Nat) (o : Option Bx) : R Z Fl := match o with
  | some (.ins c fs) => if cf.fok c f = true ∧ fs.length < 1000 then .ok .next { z with os := z.os.set i (.ins c (putFs f d fs)) } else .stuck
  | _ => .stuck
@[simp] theorem stF_box {f : Str} {i : Nat} {d : D} : stF cf z f (.box i) d = stX cf z f d i z.os[i]? := rfl
def recX (c : Nat) (m : Str) (o : Option Bx) : Bool := match o with
  | some (.ins c' fs) => decide (c' = c) && (fs.lookup m).isNone
  | _ => false
@[simp] theorem recZ_box {c : Nat} {m : Str} {i : Nat} : recZ c m z (.box i) = recX c m z.os[i]? := rfl
def ixX (o : Option Bx) (k : D) : Option D := match o with
  | some (.lst ds) => match k with
    | .int k => atI ds k
    | _ => none
  | some (.dct kvs) => getD kvs k
  | some (.lkd kvs) => getD kvs k
  | _ => none
@[simp] theorem ixD_box {j : Nat} {k : D} : ixD os (.box j) k = ixX os[j]? k := rfl
@[simp] theorem ixX_l {ds : List D} {k : Int} : ixX (some (.lst ds)) (.int k) = atI ds k := rfl
@[simp] theorem ixX_d {kvs : List (D × D)} {k : D} : ixX (some (.dct kvs)) k = getD kvs k := rfl
@[simp] theorem ixX_k {kvs : List (D × D)} {k : D} : ixX (some (.lkd kvs)) k = getD kvs k := rfl
def wrI (z : Z) (k : Nat) (o : Option (List D)) : R Z Fl := match o with
  | some ds => .ok .next { z with os := z.os.set k (.lst ds) }
  | none => .stuck
def wrK (z : Z) (k : Nat) (o : Option (List (D × D))) : R Z Fl := match o with
  | some ds => .ok .next { z with os := z.os.set k (.dct ds) }
  | none => .stuck
@[simp] theorem wrI_s {k : Nat} {ds : List D} : wrI z k (some ds) = .ok .next { z with os := z.os.set k (.lst ds) } := rfl
@[simp] theorem wrK_s {k : Nat} {ds : List (D × D)} : wrK z k (some ds) = .ok .next { z with os := z.os.set k (.dct ds) } := rfl
def stIX (z : Z) (k : Nat) (i d : D) (o : Option Bx) : R Z Fl := match o with
  | some (.lst ds) => wrI z k (setC ds i d)
  | some (.dct kvs) => wrK z k (putKO i d kvs)
  | _ => .stuck
@[simp] theorem stI_bx {k : Nat} {i d : D} : stI z (.box k) i d = stIX z k i d z.os[k]? := by
  cases h : z.os[k]? with
  | none => simp only [stI, stIX, h]
  | some x => cases x <;> (simp only [stI, stIX, h, wrI, wrK] <;> rfl)
@[simp] theorem stIX_l {k : Nat} {ds : List D} {i d : D} : stIX z k i d (some (.lst ds)) = wrI z k (setC ds i d) := rfl
@[simp] theorem stIX_d {k : Nat} {kvs : List (D × D)} {i d : D} : stIX z k i d (some (.dct kvs)) = wrK z k (putKO i d kvs) := rfl
@[simp] theorem bxl_def {ds : List D} : boxZ z (.lst ds, true) = .ok (.box z.os.length, false) { z with os := z.os ++ [.lst ds] } := rfl
@[simp] theorem bxd_def {ds : List (D × D)} : boxZ z (.dct ds, true) = .ok (.box z.os.length, false) { z with os := z.os ++ [.dct ds] } := rfl
/-- a new instance -/
theorem mkZ_ok {c f : Nat} {ds : List D} {os' : Os} {fr : Bool} (h : cf.init f (.box z.os.length :: ds) (z.os ++ [.ins c []]) = .ok (.non, fr) os') : mkZ cf c f ds z = .ok (.box z.os.length, false) { z with os := os' } := by
  unfold mkZ; rw [h]
theorem mkZ_exc {c f e : Nat} {x : D} {ds : List D} {os' : Os} (h : cf.init f (.box z.os.length :: ds) (z.os ++ [.ins c []]) = .exc e x os') : mkZ cf c f ds z = .exc e x { z with os := os' } := by
  unfold mkZ; rw [h]
/-- a try whose body lets nothing out, or an error that is caught -/
def tryZ (cf : CF) (r : R Z Fl) (c x : Nat) (h : List S) : R Z Fl := match r with
  | .exc c' d z' => if cf.sub c' c' = true then (if cf.sub c' c = true then (match execB cf h { z' with env := z'.env.set x (.ex c' d) } with
      | .ok f z => .ok f { z with env := (unEx z.env).set x .no }
      | _ => .stuck) else .exc c' d z') else .stuck
  | r => r
@[simp] theorem x_try {a h : List S} {c x : Nat} : execS cf (.tryE a c x h) z = tryZ cf (execB cf a z) c x h := by simp only [execS]; rfl
@[simp ↓] theorem tryZ_ok {f : Fl} {z' : Z} {c x : Nat} {h : List S} : tryZ cf (.ok f z') c x h = .ok f z' := rfl
def endH (x : Nat) (r : R Z Fl) : R Z Fl := match r with
  | .ok f z => .ok f { z with env := (unEx z.env).set x .no }
  | _ => .stuck
@[simp ↓] theorem endH_ok {x : Nat} {f : Fl} : endH x (.ok f z) = .ok f { z with env := (unEx z.env).set x .no } := rfl
theorem tryZ_exc {c' : Nat} {d : D} {z' : Z} {c x : Nat} {h : List S} (h1 : cf.sub c' c' = true) (h2 : cf.sub c' c = true) : tryZ cf (.exc c' d z') c x h = endH x (execB cf h { z' with env := z'.env.set x (.ex c' d) }) := by
  unfold tryZ endH
  simp only [h1, h2, if_true]
def exZ {α β : Type} (o : Option Ent) (f : Nat → D → R α β) : R α β := match o with
  | some (.ex c x) => f c x
  | _ => .stuck
@[simp ↓] theorem exZ_some {α β : Type} {c : Nat} {x : D} {f : Nat → D → R α β} : exZ (some (.ex c x)) f = f c x := rfl
@[simp] theorem e_isx {i : Nat} {cs : List Nat} : evalE cf (.isx i cs) z = exZ z.env[i]? fun c _ => if cf.sub c c = true then .ok (.bl (cs.any fun d => cf.sub c d), false) z else .stuck := by simp only [evalE]; rfl
@[simp] theorem e_xpl {i : Nat} : evalE cf (.xpl i) z = exZ z.env[i]? fun c x => if x.flat = true ∧ cf.sub c c = true then .ok (x, false) z else .stuck := by simp only [evalE]; rfl
@[simp] theorem unEx_nil : unEx [] = [] := rfl
@[simp] theorem unEx_no {l : List Ent} : unEx (.no :: l) = .no :: unEx l := rfl
@[simp] theorem unEx_val {d : D} {fr : Bool} {l : List Ent} : unEx (.val d fr :: l) = .val d fr :: unEx l := rfl
@[simp] theorem unEx_bor {d : D} {l : List Ent} : unEx (.bor d :: l) = .bor d :: unEx l := rfl
@[simp] theorem unEx_ex {c : Nat} {x : D} {l : List Ent} : unEx (.ex c x :: l) = .no :: unEx l := rfl
@[simp] theorem x_raiseP {c : Nat} {e : E} : execS cf (.raiseP c e) z = (evalE cf e z).bind fun a z => if a.1.flat = true ∧ 2 ≤ cf.lv then .exc c a.1 z else .stuck := by simp only [execS]
end
theorem b_app {cf : CF} : ∀ (a b : List S) (z : Z), execB cf (a ++ b) z = (execB cf a z).bind fun f z => onF f z fun z => execB cf b z
  | [], b, z => by simp
  | s :: a, b, z => by
    rw [List.cons_append, b_cons, b_cons]
    cases execS cf s z with
    | stuck => rfl
    | exc c x z' => rfl
    | ok f z' =>
      cases f with
      | next => exact b_app a b z'
      | cont => rfl
      | ret d fr => rfl
/-- a block in two parts -/
theorem b_split {cf : CF} {l : List S} {z z1 z2 : Z} {f : Fl} (n : Nat) (h1 : execB cf (l.take n) z = .ok .next z1) (h2 : execB cf (l.drop n) z1 = .ok f z2) : execB cf l z = .ok f z2 := by
  rw [← List.take_append_drop n l, b_app, h1]
  exact h2
/-- a loop by what holds of the whole state ahead of its i-th turn -/
theorem forL_z {tg : Tg} {bod : Z → R Z Fl} (P : Nat → Z → Prop) (xs : List D) (z : Z) (h0 : P 0 z)
    (h : ∀ (i : Nat) (hi : i < xs.length) (z : Z), P i z → ∃ env' f z2, setT tg xs[i] z.env = some env' ∧ bod ⟨env', z.os⟩ = .ok f z2 ∧ (∀ d fr, f ≠ .ret d fr) ∧ P (i + 1) z2) :
    ∃ z2, forL tg bod [] xs z = .ok .next z2 ∧ P xs.length z2 := by
  have go : ∀ (n i : Nat) (z : Z), n = xs.length - i → i ≤ xs.length → P i z → ∃ z2, forL tg bod [] (xs.drop i) z = .ok .next z2 ∧ P xs.length z2 := by
    intro n
    induction n with
    | zero =>
      intro i z hn hi p
      have : i = xs.length := by omega
      subst this
      exact ⟨z, by rw [List.drop_length]; simp only [forL]; rw [if_pos still_nil], p⟩
    | succ n ih =>
      intro i z hn hi p
      have hlt : i < xs.length := by omega
      obtain ⟨env', f, z2, h1, h2, h3, h4⟩ := h i hlt z p
      obtain ⟨z3, h5, h6⟩ := ih (i + 1) z2 (by omega) (by omega) h4
      refine ⟨z3, ?_, h6⟩
      rw [List.drop_eq_getElem_cons hlt]
      simp only [forL]
      rw [if_pos still_nil, setO_of h1]
      simp only [h2, R.bind_ok]
      cases f with
      | ret d fr => exact absurd rfl (h3 d fr)
      | next => exact h5
      | cont => exact h5
  exact go xs.length 0 z (by omega) (by omega) h0
/-- what a script's cell gives -/
theorem at0 {α : Type} {a : α} {l : List α} : atI (a :: l) 0 = some a := by simp [atI, ixN]
theorem at1 {α : Type} {a b : α} {l : List α} : atI (a :: b :: l) 1 = some b := by
  have : (1 : Int) = ((1 : Nat) : Int) := rfl
  rw [this, atI_nat (by simp)]; rfl
theorem at2 {α : Type} {a b c : α} {l : List α} : atI (a :: b :: c :: l) 2 = some c := by
  have : (2 : Int) = ((2 : Nat) : Int) := rfl
  rw [this, atI_nat (by simp)]; rfl
theorem at3 {α : Type} {a b c d : α} {l : List α} : atI (a :: b :: c :: d :: l) 3 = some d := by
  have : (3 : Int) = ((3 : Nat) : Int) := rfl
  rw [this, atI_nat (by simp)]; rfl
theorem at4 {α : Type} {a b c d e : α} {l : List α} : atI (a :: b :: c :: d :: e :: l) 4 = some e := by
  have : (4 : Int) = ((4 : Nat) : Int) := rfl
  rw [this, atI_nat (by simp)]; rfl
theorem at5 {α : Type} {a b c d e f : α} {l : List α} : atI (a :: b :: c :: d :: e :: f :: l) 5 = some f := by
  have : (5 : Int) = ((5 : Nat) : Int) := rfl
  rw [this, atI_nat (by simp)]; rfl
theorem at6 {α : Type} {a b c d e f g : α} {l : List α} : atI (a :: b :: c :: d :: e :: f :: g :: l) 6 = some g := by
  have : (6 : Int) = ((6 : Nat) : Int) := rfl
  rw [this, atI_nat (by simp)]; rfl
theorem at7 {α : Type} {a b c d e f g h : α} {l : List α} : atI (a :: b :: c :: d :: e :: f :: g :: h :: l) 7 = some h := by
  have : (7 : Int) = ((7 : Nat) : Int) := rfl
  rw [this, atI_nat (by simp)]; rfl
theorem at8 {α : Type} {a b c d e f g h i : α} {l : List α} : atI (a :: b :: c :: d :: e :: f :: g :: h :: i :: l) 8 = some i := by
  have : (8 : Int) = ((8 : Nat) : Int) := rfl
  rw [this, atI_nat (by simp)]; rfl
end
end Vi

namespace Vi
open PySem L2
noncomputable section
open Classical
/-! a block, statement by statement -/
section
variable {cf : CF} {c : E} {a b r : List S} {s : S} {z z1 z2 : Z} {d : D} {fr f1 : Bool} {f : Fl} {x : R Z Fl}
theorem b_skip (h : evalE cf c z = .ok (.bl false, false) z) : execB cf (.ifS c a [] :: r) z = execB cf r z := by
  rw [b_cons, x_if, h, R.bind_ok, pick_f, b_nil, R.bind_ok, onF_n]
theorem b_else (h : evalE cf c z = .ok (.bl false, false) z) (h2 : execB cf b z = .ok .next z1) : execB cf (.ifS c a b :: r) z = execB cf r z1 := by
  rw [b_cons, x_if, h, R.bind_ok, pick_f, h2, R.bind_ok, onF_n]
theorem b_then (h : evalE cf c z = .ok (.bl true, false) z) (h2 : execB cf a z = .ok .next z1) : execB cf (.ifS c a b :: r) z = execB cf r z1 := by
  rw [b_cons, x_if, h, R.bind_ok, pick_t, h2, R.bind_ok, onF_n]
theorem b_take (h : evalE cf c z = .ok (.bl true, false) z) (h2 : execB cf a z = .ok (.ret d fr) z1) : execB cf (.ifS c a b :: r) z = .ok (.ret d fr) z1 := by
  rw [b_cons, x_if, h, R.bind_ok, pick_t, h2, R.bind_ok, onF_r]
theorem b_take' (h : evalE cf c z = .ok (.bl true, false) z) (h2 : execB cf a z = .exc 0 d z1) : execB cf (.ifS c a b :: r) z = .exc 0 d z1 := by
  rw [b_cons, x_if, h, R.bind_ok, pick_t, h2]; rfl
theorem b_eret (h : evalE cf c z = .ok (.bl false, false) z) (h2 : execB cf b z = .ok (.ret d fr) z1) : execB cf (.ifS c a b :: r) z = .ok (.ret d fr) z1 := by
  rw [b_cons, x_if, h, R.bind_ok, pick_f, h2, R.bind_ok, onF_r]
theorem b_go (h : execS cf s z = .ok .next z1) : execB cf (s :: r) z = execB cf r z1 := by
  rw [b_cons, h, R.bind_ok, onF_n]
theorem b_set {i : Nat} {e : E} {v : D × Bool} (h : evalE cf e z = .ok v z1) : execB cf (.set (.nm i) e :: r) z = execB cf r { z1 with env := z1.env.set i (.val v.1 v.2) } := by
  rw [b_cons, x_nm, h, R.bind_ok, R.bind_ok, onF_n]
theorem b_ret (h : execS cf s z = .ok (.ret d fr) z1) : execB cf (s :: r) z = .ok (.ret d fr) z1 := by
  rw [b_cons, h, R.bind_ok, onF_r]
theorem b_stop {l : List S} (n : Nat) (h1 : execB cf (l.take n) z = .ok (.ret d fr) z2) : execB cf l z = .ok (.ret d fr) z2 := by
  rw [← List.take_append_drop n l, b_app, h1]
  rfl
end
end
end Vi

namespace Vi
open PySem L2
noncomputable section
open Classical
/-! comprehensions and walks of any kind -/
theorem still_boxes {os : Os} {ds : List D} : still os (boxesOf os ds) := by
  intro p hp
  unfold boxesOf at hp
  obtain ⟨d, hd, e⟩ := List.mem_filterMap.mp hp
  cases d with
  | box i =>
    simp only at e
    cases h : os[i]? with
    | none => rw [h] at e; cases e
    | some x => rw [h] at e; cases e; exact h
  | _ => cases e
theorem compL_gen {tg : Tg} {c elt : Z → R Z (D × Bool)} {chk : List (Nat × Bx)} {os : Os} {E0 : List Ent} {E1 : D → List Ent} {t : D → Bool} {f : D → D} (hs : still os chk) : ∀ (xs acc : List D), acc.length + xs.length < 16777216 → (∀ x ∈ xs, setT tg x E0 = some (E1 x)) → (∀ x ∈ xs, wipeE (E1 x) tg.slots = E0) →
    (∀ x ∈ xs, ∃ fr, c ⟨E1 x, os⟩ = .ok (.bl (t x), fr) ⟨E1 x, os⟩) → (∀ x ∈ xs, t x = true → ∃ fr, elt ⟨E1 x, os⟩ = .ok (f x, fr) ⟨E1 x, os⟩) →
    compL tg (eltIf c elt) chk xs acc ⟨E0, os⟩ = .ok (acc ++ (xs.filter t).map f) ⟨E0, os⟩
  | [], acc, _, _, _, _, _ => by
    simp only [compL]
    rw [if_pos hs]; simp
  | x :: xs, acc, hl, h1, h2, h3, h4 => by
    simp only [List.length_cons] at hl
    obtain ⟨fr, e⟩ := h3 x (by simp)
    have ih := fun acc hl => compL_gen (tg := tg) (c := c) (elt := elt) (E1 := E1) (t := t) (f := f) hs xs acc hl (fun y hy => h1 y (List.mem_cons_of_mem _ hy)) (fun y hy => h2 y (List.mem_cons_of_mem _ hy)) (fun y hy => h3 y (List.mem_cons_of_mem _ hy)) (fun y hy => h4 y (List.mem_cons_of_mem _ hy))
    simp only [compL]
    rw [if_pos hs, h1 x (by simp)]
    cases ht : t x with
    | true =>
      obtain ⟨fr2, e2⟩ := h4 x (by simp) ht
      have ev : eltIf c elt ⟨E1 x, os⟩ = .ok (some (f x)) ⟨E1 x, os⟩ := by simp only [eltIf, e, ht, R.bind_ok, e2]
      simp only [ev]
      rw [if_pos (show acc.length < sizeLine from by unfold sizeLine; omega), h2 x (by simp), ih _ (by simp; omega)]
      simp [ht]
    | false =>
      have ev : eltIf c elt ⟨E1 x, os⟩ = .ok none ⟨E1 x, os⟩ := by simp only [eltIf, e, ht, R.bind_ok]
      simp only [ev]
      rw [h2 x (by simp), ih _ (by omega)]
      simp [ht]
theorem compK_gen {tg : Tg} {k : ItK} {c elt : Z → R Z (D × Bool)} {ds xs : List D} {z : Z} {E1 : D → List Ent} {t : D → Bool} {f : D → D} (hx : srcOf z.os k ds = some xs) (hl : xs.length < 16777216) (h1 : ∀ x ∈ xs, setT tg x (wipeE z.env tg.slots) = some (E1 x)) (h2 : ∀ x ∈ xs, wipeE (E1 x) tg.slots = wipeE z.env tg.slots)
    (h3 : ∀ x ∈ xs, ∃ fr, c ⟨E1 x, z.os⟩ = .ok (.bl (t x), fr) ⟨E1 x, z.os⟩) (h4 : ∀ x ∈ xs, t x = true → ∃ fr, elt ⟨E1 x, z.os⟩ = .ok (f x, fr) ⟨E1 x, z.os⟩) :
    compK tg k c elt ds z = .ok (.lst ((xs.filter t).map f), true) ⟨backE z.env (wipeE z.env tg.slots) tg.slots, z.os⟩ := by
  unfold compK
  rw [hx]
  simp only [compZ]
  rw [compL_gen still_boxes xs [] (by simpa using hl) h1 h2 h3 h4]
  simp
/-- without a test -/
theorem compK_all {tg : Tg} {k : ItK} {elt : Z → R Z (D × Bool)} {ds xs : List D} {z : Z} {E1 : D → List Ent} {f : D → D} (hx : srcOf z.os k ds = some xs) (hl : xs.length < 16777216) (h1 : ∀ x ∈ xs, setT tg x (wipeE z.env tg.slots) = some (E1 x)) (h2 : ∀ x ∈ xs, wipeE (E1 x) tg.slots = wipeE z.env tg.slots)
    (h4 : ∀ x ∈ xs, ∃ fr, elt ⟨E1 x, z.os⟩ = .ok (f x, fr) ⟨E1 x, z.os⟩) :
    compK tg k yesZ elt ds z = .ok (.lst (xs.map f), true) ⟨backE z.env (wipeE z.env tg.slots) tg.slots, z.os⟩ := by
  rw [compK_gen (c := yesZ) (elt := elt) (f := f) (t := fun _ => true) hx hl h1 h2 (fun x hx => ⟨false, rfl⟩) (fun x hx _ => h4 x hx), List.filter_eq_self.mpr (by simp)]
/-- one turn, whatever is watched -/
theorem forL_consC {tg : Tg} {bod : Z → R Z Fl} {chk : List (Nat × Bx)} {x : D} {xs : List D} {z : Z} {env' : List Ent} (hs : still z.os chk) (h : setT tg x z.env = some env') : forL tg bod chk (x :: xs) z = (bod ⟨env', z.os⟩).bind fun f z' => goL f z' fun z' => forL tg bod chk xs z' := by
  simp only [forL]; rw [if_pos hs, setO_of h]; rfl
theorem forL_nilC {tg : Tg} {bod : Z → R Z Fl} {chk : List (Nat × Bx)} {z : Z} (hs : still z.os chk) : forL tg bod chk [] z = .ok .next z := by
  simp only [forL]; rw [if_pos hs]
/-- a walk that goes to its end, by what holds of the whole state ahead of its i-th turn -/
theorem forL_zC {tg : Tg} {bod : Z → R Z Fl} {chk : List (Nat × Bx)} (P : Nat → Z → Prop) (xs : List D) (z : Z) (h0 : P 0 z) (hs : ∀ i z, P i z → still z.os chk)
    (h : ∀ (i : Nat) (hi : i < xs.length) (z : Z), P i z → ∃ env' f z2, setT tg xs[i] z.env = some env' ∧ bod ⟨env', z.os⟩ = .ok f z2 ∧ (∀ d fr, f ≠ .ret d fr) ∧ P (i + 1) z2) :
    ∃ z2, forL tg bod chk xs z = .ok .next z2 ∧ P xs.length z2 := by
  have go : ∀ (n i : Nat) (z : Z), n = xs.length - i → i ≤ xs.length → P i z → ∃ z2, forL tg bod chk (xs.drop i) z = .ok .next z2 ∧ P xs.length z2 := by
    intro n
    induction n with
    | zero =>
      intro i z hn hi p
      have : i = xs.length := by omega
      subst this
      exact ⟨z, by rw [List.drop_length, forL_nilC (hs _ _ p)], p⟩
    | succ n ih =>
      intro i z hn hi p
      have hlt : i < xs.length := by omega
      obtain ⟨env', f, z2, h1, h2, h3, h4⟩ := h i hlt z p
      obtain ⟨z3, h5, h6⟩ := ih (i + 1) z2 (by omega) (by omega) h4
      refine ⟨z3, ?_, h6⟩
      rw [List.drop_eq_getElem_cons hlt, forL_consC (hs _ _ p) h1]
      simp only [h2, R.bind_ok]
      cases f with
      | ret d fr => exact absurd rfl (h3 d fr)
      | next => exact h5
      | cont => exact h5
  exact go xs.length 0 z (by omega) (by omega) h0
/-- a walk that may end early, with one answer -/
theorem forL_ret {tg : Tg} {bod : Z → R Z Fl} {chk : List (Nat × Bx)} {os : Os} {d : D} {fr : Bool} (P : Nat → List Ent → Prop) (xs : List D) (env : List Ent) (h0 : P 0 env) (hs : still os chk)
    (h : ∀ (i : Nat) (hi : i < xs.length) (env : List Ent), P i env → ∃ env' f env2, setT tg xs[i] env = some env' ∧ bod ⟨env', os⟩ = .ok f ⟨env2, os⟩ ∧ ((∀ d fr, f ≠ .ret d fr) ∧ P (i + 1) env2 ∨ f = .ret d fr)) :
    ∃ env2, forL tg bod chk xs ⟨env, os⟩ = .ok .next ⟨env2, os⟩ ∧ P xs.length env2 ∨ forL tg bod chk xs ⟨env, os⟩ = .ok (.ret d fr) ⟨env2, os⟩ := by
  have go : ∀ (n i : Nat) (env : List Ent), n = xs.length - i → i ≤ xs.length → P i env → ∃ env2, forL tg bod chk (xs.drop i) ⟨env, os⟩ = .ok .next ⟨env2, os⟩ ∧ P xs.length env2 ∨ forL tg bod chk (xs.drop i) ⟨env, os⟩ = .ok (.ret d fr) ⟨env2, os⟩ := by
    intro n
    induction n with
    | zero =>
      intro i z hn hi p
      have : i = xs.length := by omega
      subst this
      exact ⟨z, .inl ⟨by rw [List.drop_length, forL_nilC hs], p⟩⟩
    | succ n ih =>
      intro i z hn hi p
      have hlt : i < xs.length := by omega
      obtain ⟨env', f, z2, h1, h2, h3⟩ := h i hlt z p
      rw [List.drop_eq_getElem_cons hlt, forL_consC (env' := env') hs h1]
      simp only [h2, R.bind_ok]
      rcases h3 with ⟨h3, h4⟩ | rfl
      · obtain ⟨z3, h5⟩ := ih (i + 1) z2 (by omega) (by omega) h4
        refine ⟨z3, ?_⟩
        cases f with
        | ret d fr => exact absurd rfl (h3 d fr)
        | next => exact h5
        | cont => exact h5
      · exact ⟨z2, .inr rfl⟩
  exact go xs.length 0 env (by omega) (by omega) h0
/-! equal to itself -/
mutual
theorem eqD_self : ∀ {d : D} {n : Nat}, dep d = some n → eqD d d = true
  | .non, _, _ => rfl
  | .bl b, _, _ => by simp [eqD]
  | .int i, _, _ => by simp [eqD]
  | .str s, _, _ => by simp [eqD]
  | .lst l, n, h => by
    simp only [dep, Option.map_eq_some_iff] at h
    obtain ⟨m, h, _⟩ := h
    simp only [eqD]
    exact eqDs_self h
  | .tup l, n, h => by
    simp only [dep, Option.map_eq_some_iff] at h
    obtain ⟨m, h, _⟩ := h
    simp only [eqD]
    exact eqDs_self h
  | .dct _, _, h => by simp [dep] at h
  | .box _, _, h => by simp [dep] at h
theorem eqDs_self : ∀ {l : List D} {n : Nat}, deps l = some n → eqDs l l = true
  | [], _, _ => rfl
  | d :: l, n, h => by
    simp only [deps] at h
    cases h1 : dep d with
    | none => rw [h1] at h; simp at h
    | some a =>
      cases h2 : deps l with
      | none => rw [h1, h2] at h; simp at h
      | some b => simp only [eqDs, eqD_self h1, eqDs_self h2, Bool.and_self]
end
theorem deps_le {l : List D} {n : Nat} (h : ∀ d ∈ l, ∃ m, dep d = some m ∧ m ≤ n) : ∃ m, deps l = some m ∧ m ≤ n := by
  induction l with
  | nil => exact ⟨0, rfl, by omega⟩
  | cons d l ih =>
    obtain ⟨a, h1, h2⟩ := h d (by simp)
    obtain ⟨b, h3, h4⟩ := ih fun x hx => h x (List.mem_cons_of_mem _ hx)
    exact ⟨max a b, by simp only [deps, h1, h3], by omega⟩
/-- a list of plain things -/
theorem dep_lstN {l : List D} {n : Nat} (h : ∀ d ∈ l, ∃ m, dep d = some m ∧ m ≤ n) : ∃ m, dep (.lst l) = some m ∧ m ≤ n + 1 := by
  obtain ⟨m, h1, h2⟩ := deps_le h
  exact ⟨m + 1, by simp only [dep, h1, Option.map_some], by omega⟩
theorem dep_tupN {l : List D} {n : Nat} (h : ∀ d ∈ l, ∃ m, dep d = some m ∧ m ≤ n) : ∃ m, dep (.tup l) = some m ∧ m ≤ n + 1 := by
  obtain ⟨m, h1, h2⟩ := deps_le h
  exact ⟨m + 1, by simp only [dep, h1, Option.map_some], by omega⟩
theorem q_eqd {os : Os} {x y : D} {a b : Nat} (h1 : dep (snap os x) = some a) (h2 : dep (snap os y) = some b) (ha : a ≤ 60) (hb : b ≤ 60) : cmpD .eq os x y = some (eqD (snap os x) (snap os y)) := by
  simp only [cmpD, h1, h2]
  rw [if_pos ⟨ha, hb⟩]
theorem q_ned {os : Os} {x y : D} {a b : Nat} (h1 : dep (snap os x) = some a) (h2 : dep (snap os y) = some b) (ha : a ≤ 60) (hb : b ≤ 60) : cmpD .ne os x y = some (!eqD (snap os x) (snap os y)) := by
  simp only [cmpD, h1, h2]
  rw [if_pos ⟨ha, hb⟩]
/-- the same thing, perhaps in a box -/
theorem q_eqself {os : Os} {x y d : D} {a : Nat} (hx : snap os x = d) (hy : snap os y = d) (h : dep d = some a) (ha : a ≤ 60) : cmpD .eq os x y = some true := by
  rw [q_eqd (by rw [hx]; exact h) (by rw [hy]; exact h) ha ha, hx, hy, eqD_self h]
theorem q_neself {os : Os} {x y d : D} {a : Nat} (hx : snap os x = d) (hy : snap os y = d) (h : dep d = some a) (ha : a ≤ 60) : cmpD .ne os x y = some false := by
  rw [q_ned (by rw [hx]; exact h) (by rw [hy]; exact h) ha ha, hx, hy, eqD_self h]; rfl
/-- a walk whose target may take boxed lists to parts -/
theorem forL_consO {tg : Tg} {bod : Z → R Z Fl} {chk : List (Nat × Bx)} {x : D} {xs : List D} {z : Z} {env' : List Ent} (hs : still z.os chk) (h : setO z.os tg x z.env = some env') : forL tg bod chk (x :: xs) z = (bod ⟨env', z.os⟩).bind fun f z' => goL f z' fun z' => forL tg bod chk xs z' := by
  simp only [forL]; rw [if_pos hs, h]; rfl
theorem forL_zO {tg : Tg} {bod : Z → R Z Fl} {chk : List (Nat × Bx)} (P : Nat → Z → Prop) (xs : List D) (z : Z) (h0 : P 0 z) (hs : ∀ i z, P i z → still z.os chk)
    (h : ∀ (i : Nat) (hi : i < xs.length) (z : Z), P i z → ∃ env' f z2, setO z.os tg xs[i] z.env = some env' ∧ bod ⟨env', z.os⟩ = .ok f z2 ∧ (∀ d fr, f ≠ .ret d fr) ∧ P (i + 1) z2) :
    ∃ z2, forL tg bod chk xs z = .ok .next z2 ∧ P xs.length z2 := by
  have go : ∀ (n i : Nat) (z : Z), n = xs.length - i → i ≤ xs.length → P i z → ∃ z2, forL tg bod chk (xs.drop i) z = .ok .next z2 ∧ P xs.length z2 := by
    intro n
    induction n with
    | zero =>
      intro i z hn hi p
      have : i = xs.length := by omega
      subst this
      exact ⟨z, by rw [List.drop_length, forL_nilC (hs _ _ p)], p⟩
    | succ n ih =>
      intro i z hn hi p
      have hlt : i < xs.length := by omega
      obtain ⟨env', f, z2, h1, h2, h3, h4⟩ := h i hlt z p
      obtain ⟨z3, h5, h6⟩ := ih (i + 1) z2 (by omega) (by omega) h4
      refine ⟨z3, ?_, h6⟩
      rw [List.drop_eq_getElem_cons hlt, forL_consO (hs _ _ p) h1]
      simp only [h2, R.bind_ok]
      cases f with
      | ret d fr => exact absurd rfl (h3 d fr)
      | next => exact h5
      | cont => exact h5
  exact go xs.length 0 z (by omega) (by omega) h0
end
end Vi

namespace Vi
open PySem L2
noncomputable section
open Classical
/-! comprehensions over typed lists -/
theorem compL_ty {α : Type} {en : α → D} {tg : Tg} {c elt : Z → R Z (D × Bool)} {chk : List (Nat × Bx)} {os : Os} {E0 : List Ent} {E1 : α → List Ent} {t : α → Bool} {f : α → D} (hs : still os chk) : ∀ (xs : List α) (acc : List D), acc.length + xs.length < 16777216 → (∀ x ∈ xs, setT tg (en x) E0 = some (E1 x)) → (∀ x ∈ xs, wipeE (E1 x) tg.slots = E0) →
    (∀ x ∈ xs, ∃ fr, c ⟨E1 x, os⟩ = .ok (.bl (t x), fr) ⟨E1 x, os⟩) → (∀ x ∈ xs, t x = true → ∃ fr, elt ⟨E1 x, os⟩ = .ok (f x, fr) ⟨E1 x, os⟩) →
    compL tg (eltIf c elt) chk (xs.map en) acc ⟨E0, os⟩ = .ok (acc ++ (xs.filter t).map f) ⟨E0, os⟩
  | [], acc, _, _, _, _, _ => by
    simp only [List.map_nil, compL]
    rw [if_pos hs]; simp
  | x :: xs, acc, hl, h1, h2, h3, h4 => by
    simp only [List.length_cons] at hl
    obtain ⟨fr, e⟩ := h3 x (by simp)
    have ih := fun acc hl => compL_ty (en := en) (tg := tg) (c := c) (elt := elt) (E1 := E1) (t := t) (f := f) hs xs acc hl (fun y hy => h1 y (List.mem_cons_of_mem _ hy)) (fun y hy => h2 y (List.mem_cons_of_mem _ hy)) (fun y hy => h3 y (List.mem_cons_of_mem _ hy)) (fun y hy => h4 y (List.mem_cons_of_mem _ hy))
    simp only [List.map_cons, compL]
    rw [if_pos hs, h1 x (by simp)]
    cases ht : t x with
    | true =>
      obtain ⟨fr2, e2⟩ := h4 x (by simp) ht
      have ev : eltIf c elt ⟨E1 x, os⟩ = .ok (some (f x)) ⟨E1 x, os⟩ := by simp only [eltIf, e, ht, R.bind_ok, e2]
      simp only [ev]
      rw [if_pos (show acc.length < sizeLine from by unfold sizeLine; omega), h2 x (by simp), ih _ (by simp; omega)]
      simp [ht]
    | false =>
      have ev : eltIf c elt ⟨E1 x, os⟩ = .ok none ⟨E1 x, os⟩ := by simp only [eltIf, e, ht, R.bind_ok]
      simp only [ev]
      rw [h2 x (by simp), ih _ (by omega)]
      simp [ht]
theorem compK_ty {α : Type} {en : α → D} {tg : Tg} {k : ItK} {c elt : Z → R Z (D × Bool)} {ds : List D} {L : List α} {z : Z} {E1 : α → List Ent} {t : α → Bool} {f : α → D} (hx : srcOf z.os k ds = some (L.map en)) (hl : L.length < 16777216) (h1 : ∀ x ∈ L, setT tg (en x) (wipeE z.env tg.slots) = some (E1 x)) (h2 : ∀ x ∈ L, wipeE (E1 x) tg.slots = wipeE z.env tg.slots)
    (h3 : ∀ x ∈ L, ∃ fr, c ⟨E1 x, z.os⟩ = .ok (.bl (t x), fr) ⟨E1 x, z.os⟩) (h4 : ∀ x ∈ L, t x = true → ∃ fr, elt ⟨E1 x, z.os⟩ = .ok (f x, fr) ⟨E1 x, z.os⟩) :
    compK tg k c elt ds z = .ok (.lst ((L.filter t).map f), true) ⟨backE z.env (wipeE z.env tg.slots) tg.slots, z.os⟩ := by
  unfold compK
  rw [hx]
  simp only [compZ]
  rw [compL_ty still_boxes L [] (by simpa using hl) h1 h2 h3 h4]
  simp
theorem compK_tyA {α : Type} {en : α → D} {tg : Tg} {k : ItK} {elt : Z → R Z (D × Bool)} {ds : List D} {L : List α} {z : Z} {E1 : α → List Ent} {f : α → D} (hx : srcOf z.os k ds = some (L.map en)) (hl : L.length < 16777216) (h1 : ∀ x ∈ L, setT tg (en x) (wipeE z.env tg.slots) = some (E1 x)) (h2 : ∀ x ∈ L, wipeE (E1 x) tg.slots = wipeE z.env tg.slots)
    (h4 : ∀ x ∈ L, ∃ fr, elt ⟨E1 x, z.os⟩ = .ok (f x, fr) ⟨E1 x, z.os⟩) :
    compK tg k yesZ elt ds z = .ok (.lst (L.map f), true) ⟨backE z.env (wipeE z.env tg.slots) tg.slots, z.os⟩ := by
  rw [compK_ty (c := yesZ) (elt := elt) (f := f) (t := fun _ => true) hx hl h1 h2 (fun x hx => ⟨false, rfl⟩) (fun x hx _ => h4 x hx), List.filter_eq_self.mpr (by simp)]
end
end Vi

namespace Vi
open PySem L2
def top (i : Nat) : Stmt := PySem.Challenge.pw_brooktally_k05_plans_looked_at.main.body.getD i (.Pass ⟨0, 0, 0, 0⟩)
abbrev ix_is_whole : Nat := 0
abbrev ix_is_among : Nat := 1
abbrev ix_is_name : Nat := 2
abbrev ix_is_amount : Nat := 3
abbrev ix_is_tally : Nat := 4
abbrev ix_is_stream : Nat := 5
abbrev ix_is_range : Nat := 6
abbrev ix_is_turn : Nat := 7
abbrev ix_is_window : Nat := 8
abbrev ix_is_telling : Nat := 9
abbrev ix_is_step : Nat := 10
abbrev ix_name_of : Nat := 11
abbrev ix_feeders : Nat := 12
abbrev ix_is_teller : Nat := 13
abbrev ix_width : Nat := 14
abbrev ix_is_fed : Nat := 15
abbrev ix_checked : Nat := 16
abbrev ix_law_at : Nat := 17
abbrev ix_law_whole : Nat := 18
abbrev ix_law_is_name : Nat := 19
abbrev ix_law_is_among : Nat := 20
abbrev ix_law_called : Nat := 21
abbrev ix_law_is_step : Nat := 22
abbrev ix_law_number : Nat := 23
abbrev ix_law_step : Nat := 24
abbrev ix_law_wide : Nat := 25
abbrev ix_law_step_name : Nat := 26
abbrev ix_law_plan : Nat := 27
abbrev ix_law_bad : Nat := 28
abbrev ix_law_spoilt : Nat := 29
abbrev ix_law_said : Nat := 30
abbrev ix_law : Nat := 31
abbrev cx_FlowError : Nat := 0
abbrev cx_BadEvent : Nat := 1
abbrev cx_BadSlack : Nat := 2
abbrev cx_Broken : Nat := 3
abbrev cx_BadStep : Nat := 4
abbrev cx_BadLine : Nat := 5
abbrev cx_BadKeep : Nat := 6
def S__d41d : Str := ""
def S_abcd : Str := "abcd"
def S_abcdefg : Str := "abcdefg"
def S_abcdefgh : Str := "abcdefgh"
def S_abcdefghijklmnopqrstuvwx_c3fc : Str := "abcdefghijklmnopqrstuvwxyz"
def S_bad : Str := "bad"
def S_both : Str := "both"
def S_count : Str := "count"
def S_each : Str := "each"
def S_end : Str := "end"
def S_fine : Str := "fine"
def S_gap : Str := "gap"
def S_greatest : Str := "greatest"
def S_join : Str := "join"
def S_k : Str := "k"
def S_late : Str := "late"
def S_least : Str := "least"
def S_mnop : Str := "mnop"
def S_n : Str := "n"
def S_new : Str := "new"
def S_only : Str := "only"
def S_other : Str := "other"
def S_q : Str := "q"
def S_sum : Str := "sum"
def S_take : Str := "take"
def S_turn : Str := "turn"
def S_unknown : Str := "unknown"
def S_w : Str := "w"
def S_zabcdefg : Str := "zabcdefg"
theorem S__d41d_ok : PyData.strOk S__d41d = true := by decide +kernel
theorem S_abcd_ok : PyData.strOk S_abcd = true := by decide +kernel
theorem S_abcdefg_ok : PyData.strOk S_abcdefg = true := by decide +kernel
theorem S_abcdefgh_ok : PyData.strOk S_abcdefgh = true := by decide +kernel
theorem S_abcdefghijklmnopqrstuvwx_c3fc_ok : PyData.strOk S_abcdefghijklmnopqrstuvwx_c3fc = true := by decide +kernel
theorem S_bad_ok : PyData.strOk S_bad = true := by decide +kernel
theorem S_both_ok : PyData.strOk S_both = true := by decide +kernel
theorem S_count_ok : PyData.strOk S_count = true := by decide +kernel
theorem S_each_ok : PyData.strOk S_each = true := by decide +kernel
theorem S_end_ok : PyData.strOk S_end = true := by decide +kernel
theorem S_fine_ok : PyData.strOk S_fine = true := by decide +kernel
theorem S_gap_ok : PyData.strOk S_gap = true := by decide +kernel
theorem S_greatest_ok : PyData.strOk S_greatest = true := by decide +kernel
theorem S_join_ok : PyData.strOk S_join = true := by decide +kernel
theorem S_k_ok : PyData.strOk S_k = true := by decide +kernel
theorem S_late_ok : PyData.strOk S_late = true := by decide +kernel
theorem S_least_ok : PyData.strOk S_least = true := by decide +kernel
theorem S_mnop_ok : PyData.strOk S_mnop = true := by decide +kernel
theorem S_n_ok : PyData.strOk S_n = true := by decide +kernel
theorem S_new_ok : PyData.strOk S_new = true := by decide +kernel
theorem S_only_ok : PyData.strOk S_only = true := by decide +kernel
theorem S_other_ok : PyData.strOk S_other = true := by decide +kernel
theorem S_q_ok : PyData.strOk S_q = true := by decide +kernel
theorem S_sum_ok : PyData.strOk S_sum = true := by decide +kernel
theorem S_take_ok : PyData.strOk S_take = true := by decide +kernel
theorem S_turn_ok : PyData.strOk S_turn = true := by decide +kernel
theorem S_unknown_ok : PyData.strOk S_unknown = true := by decide +kernel
theorem S_w_ok : PyData.strOk S_w = true := by decide +kernel
theorem S_zabcdefg_ok : PyData.strOk S_zabcdefg = true := by decide +kernel
/-! is_whole(thing)  -/
def ir_is_whole : List S := [.ret (.and (.isi (.b 0) [.int]) (.not (.isi (.b 0) [.bool])))]
abbrev sl_is_whole : List Str := ["thing"]
def di_is_whole : DI := ⟨"is_whole", "is_whole", top 12, sl_is_whole, ["thing"], ⟨[false], 1, ir_is_whole⟩⟩
/-! is_among(thing, least, most)  -/
def ir_is_among : List S := [.ret (.and (.call ix_is_whole [.v 0]) (.chain .le .le (.b 1) (.b 0) (.b 2)))]
abbrev sl_is_among : List Str := ["thing", "least", "most"]
def di_is_among : DI := ⟨"is_among", "is_among", top 13, sl_is_among, ["thing", "least", "most"], ⟨[false, false, false], 3, ir_is_among⟩⟩
/-! is_name(thing)  -/
def ir_is_name_b1 : List S := [.ifS (.cmp .notin (.b 1) (.c (.str S_abcdefghijklmnopqrstuvwx_c3fc))) [.ret (.c (.bl false))] []]
def ir_is_name : List S := [.ifS (.or (.not (.isi (.b 0) [.str])) (.not (.chain .le .le (.c (.int 1)) (.fn .len [.b 0]) (.c (.int 12))))) [.ret (.c (.bl false))] [],
  .for (.nm 1) .val [.v 0] ir_is_name_b1,
  .ret (.c (.bl true))]
abbrev sl_is_name : List Str := ["thing", "sign"]
def di_is_name : DI := ⟨"is_name", "is_name", top 14, sl_is_name, ["thing"], ⟨[false], 2, ir_is_name⟩⟩
/-! is_amount(thing)  -/
def ir_is_amount : List S := [.ret (.call ix_is_among [.v 0, .bin .sub (.c (.int 0)) (.c (.int 1000000000)), .c (.int 1000000000)])]
abbrev sl_is_amount : List Str := ["thing"]
def di_is_amount : DI := ⟨"is_amount", "is_amount", top 15, sl_is_amount, ["thing"], ⟨[false], 1, ir_is_amount⟩⟩
/-! is_tally(thing)  -/
def ir_is_tally : List S := [.ret (.and (.isi (.b 0) [.str]) (.cmp .isin (.b 0) (.tup [.c (.str S_count), .c (.str S_sum), .c (.str S_least), .c (.str S_greatest)])))]
abbrev sl_is_tally : List Str := ["thing"]
def di_is_tally : DI := ⟨"is_tally", "is_tally", top 21, sl_is_tally, ["thing"], ⟨[false], 1, ir_is_tally⟩⟩
/-! is_stream(thing)  -/
def ir_is_stream : List S := [.ifS (.cmp .eq (.ix (.b 0) (.c (.int 0))) (.c (.str S_take))) [.ret (.and (.cmp .eq (.fn .len [.b 0]) (.c (.int 3))) (.call ix_is_name [.ix (.b 0) (.c (.int 2))]))] [],
  .ifS (.cmp .eq (.ix (.b 0) (.c (.int 0))) (.c (.str S_only))) [.ret (.and (.cmp .eq (.fn .len [.b 0]) (.c (.int 5))) (.and (.call ix_is_name [.ix (.b 0) (.c (.int 2))]) (.call ix_is_range [.ix (.b 0) (.c (.int 3)), .ix (.b 0) (.c (.int 4))])))] [],
  .ifS (.cmp .eq (.ix (.b 0) (.c (.int 0))) (.c (.str S_turn))) [.ret (.and (.cmp .eq (.fn .len [.b 0]) (.c (.int 5))) (.and (.call ix_is_name [.ix (.b 0) (.c (.int 2))]) (.call ix_is_turn [.ix (.b 0) (.c (.int 3)), .ix (.b 0) (.c (.int 4))])))] [],
  .ifS (.cmp .eq (.ix (.b 0) (.c (.int 0))) (.c (.str S_both))) [.ret (.and (.cmp .eq (.fn .len [.b 0]) (.c (.int 4))) (.and (.call ix_is_name [.ix (.b 0) (.c (.int 2))]) (.call ix_is_name [.ix (.b 0) (.c (.int 3))])))] [],
  .ifS (.cmp .eq (.ix (.b 0) (.c (.int 0))) (.c (.str S_join))) [.ret (.and (.cmp .eq (.fn .len [.b 0]) (.c (.int 5))) (.and (.call ix_is_name [.ix (.b 0) (.c (.int 2))]) (.and (.call ix_is_name [.ix (.b 0) (.c (.int 3))]) (.call ix_is_among [.ix (.b 0) (.c (.int 4)), .c (.int 0), .c (.int 1000000)]))))] [],
  .ret (.c (.bl false))]
abbrev sl_is_stream : List Str := ["thing"]
def di_is_stream : DI := ⟨"is_stream", "is_stream", top 22, sl_is_stream, ["thing"], ⟨[false], 1, ir_is_stream⟩⟩
/-! is_range(low, high)  -/
def ir_is_range : List S := [.ret (.and (.call ix_is_amount [.v 0]) (.and (.call ix_is_amount [.v 1]) (.cmp .le (.b 0) (.b 1))))]
abbrev sl_is_range : List Str := ["low", "high"]
def di_is_range : DI := ⟨"is_range", "is_range", top 23, sl_is_range, ["low", "high"], ⟨[false, false], 2, ir_is_range⟩⟩
/-! is_turn(times, more)  -/
def ir_is_turn : List S := [.ret (.and (.call ix_is_among [.v 0, .bin .sub (.c (.int 0)) (.c (.int 9)), .c (.int 9)]) (.call ix_is_amount [.v 1]))]
abbrev sl_is_turn : List Str := ["times", "more"]
def di_is_turn : DI := ⟨"is_turn", "is_turn", top 24, sl_is_turn, ["times", "more"], ⟨[false, false], 2, ir_is_turn⟩⟩
/-! is_window(size, step)  -/
def ir_is_window : List S := [.ret (.and (.call ix_is_among [.v 0, .c (.int 1), .c (.int 1000000)]) (.and (.call ix_is_among [.v 1, .c (.int 1), .v 0]) (.cmp .le (.b 0) (.bin .mul (.c (.int 20)) (.b 1)))))]
abbrev sl_is_window : List Str := ["size", "step"]
def di_is_window : DI := ⟨"is_window", "is_window", top 25, sl_is_window, ["size", "step"], ⟨[false, false], 2, ir_is_window⟩⟩
/-! is_telling(thing)  -/
def ir_is_telling : List S := [.ifS (.and (.cmp .eq (.ix (.b 0) (.c (.int 0))) (.c (.str S_each))) (.cmp .eq (.fn .len [.b 0]) (.c (.int 6)))) [.ret (.and (.call ix_is_name [.ix (.b 0) (.c (.int 2))]) (.and (.call ix_is_tally [.ix (.b 0) (.c (.int 3))]) (.call ix_is_window [.ix (.b 0) (.c (.int 4)), .ix (.b 0) (.c (.int 5))])))] [],
  .ifS (.and (.cmp .eq (.ix (.b 0) (.c (.int 0))) (.c (.str S_gap))) (.cmp .eq (.fn .len [.b 0]) (.c (.int 5)))) [.ret (.and (.call ix_is_name [.ix (.b 0) (.c (.int 2))]) (.and (.call ix_is_tally [.ix (.b 0) (.c (.int 3))]) (.call ix_is_among [.ix (.b 0) (.c (.int 4)), .c (.int 0), .c (.int 1000000)])))] [],
  .ret (.c (.bl false))]
abbrev sl_is_telling : List Str := ["thing"]
def di_is_telling : DI := ⟨"is_telling", "is_telling", top 26, sl_is_telling, ["thing"], ⟨[false], 1, ir_is_telling⟩⟩
/-! is_step(thing)  -/
def ir_is_step : List S := [.ifS (.or (.not (.isi (.b 0) [.tuple])) (.or (.cmp .lt (.fn .len [.b 0]) (.c (.int 3))) (.or (.not (.isi (.ix (.b 0) (.c (.int 0))) [.str])) (.not (.call ix_is_name [.ix (.b 0) (.c (.int 1))]))))) [.ret (.c (.bl false))] [],
  .ret (.or (.call ix_is_stream [.v 0]) (.call ix_is_telling [.v 0]))]
abbrev sl_is_step : List Str := ["thing"]
def di_is_step : DI := ⟨"is_step", "is_step", top 27, sl_is_step, ["thing"], ⟨[false], 1, ir_is_step⟩⟩
/-! name_of(step)  -/
def ir_name_of : List S := [.ret (.ix (.b 0) (.c (.int 1)))]
abbrev sl_name_of : List Str := ["step"]
def di_name_of : DI := ⟨"name_of", "name_of", top 28, sl_name_of, ["step"], ⟨[false], 1, ir_name_of⟩⟩
/-! feeders(step)  -/
def ir_feeders : List S := [.ifS (.cmp .eq (.ix (.b 0) (.c (.int 0))) (.c (.str S_take))) [.ret (.lst [])] [],
  .ifS (.or (.cmp .eq (.ix (.b 0) (.c (.int 0))) (.c (.str S_both))) (.cmp .eq (.ix (.b 0) (.c (.int 0))) (.c (.str S_join)))) [.ret (.lst [.ix (.b 0) (.c (.int 2)), .ix (.b 0) (.c (.int 3))])] [],
  .ret (.lst [.ix (.b 0) (.c (.int 2))])]
abbrev sl_feeders : List Str := ["step"]
def di_feeders : DI := ⟨"feeders", "feeders", top 29, sl_feeders, ["step"], ⟨[false], 1, ir_feeders⟩⟩
/-! is_teller(step)  -/
def ir_is_teller : List S := [.ret (.or (.cmp .eq (.ix (.b 0) (.c (.int 0))) (.c (.str S_each))) (.cmp .eq (.ix (.b 0) (.c (.int 0))) (.c (.str S_gap))))]
abbrev sl_is_teller : List Str := ["step"]
def di_is_teller : DI := ⟨"is_teller", "is_teller", top 30, sl_is_teller, ["step"], ⟨[false], 1, ir_is_teller⟩⟩
/-! width(step, widths) widths -/
def ir_width_e1 : E := .ix (.b 1) (.b 2)
def ir_width : List S := [.ifS (.cmp .eq (.ix (.b 0) (.c (.int 0))) (.c (.str S_take))) [.ret (.c (.int 1))] [],
  .ret (.fn .sum [.comp ir_width_e1 (.nm 2) .val [.call ix_feeders [.v 0]] []])]
abbrev sl_width : List Str := ["step", "widths", "name"]
def di_width : DI := ⟨"width", "width", top 34, sl_width, ["step", "widths"], ⟨[false, true], 3, ir_width⟩⟩
/-! is_fed(step, widths) widths -/
def ir_is_fed_b1 : List S := [.ifS (.cmp .notin (.b 2) (.b 1)) [.ret (.c (.bl false))] []]
def ir_is_fed : List S := [.for (.nm 2) .val [.call ix_feeders [.v 0]] ir_is_fed_b1,
  .ret (.c (.bl true))]
abbrev sl_is_fed : List Str := ["step", "widths", "name"]
def di_is_fed : DI := ⟨"is_fed", "is_fed", top 35, sl_is_fed, ["step", "widths"], ⟨[false, true], 3, ir_is_fed⟩⟩
/-! checked(plan)  -/
def ir_checked_b1 : List S := [.ifS (.or (.not (.call ix_is_step [.v 4])) (.or (.cmp .isin (.call ix_name_of [.v 4]) (.b 2)) (.not (.call ix_is_fed [.v 4, .b 1])))) [.raiseP cx_BadStep (.v 3)] [], .setD 2 (.call ix_name_of [.v 4]) (.c (.bl true)), .ifS (.cmp .gt (.call ix_width [.v 4, .b 1]) (.c (.int 32))) [.raiseP cx_BadStep (.v 3)] [], .ifS (.not (.call ix_is_teller [.v 4])) [.setD 1 (.call ix_name_of [.v 4]) (.call ix_width [.v 4, .b 1])] []]
def ir_checked : List S := [.ifS (.or (.not (.isi (.b 0) [.list])) (.cmp .gt (.fn .len [.b 0]) (.c (.int 30)))) [.raiseP cx_BadStep (.c .non)] [],
  .set (.nm 1) (.dct []),
  .set (.nm 2) (.dct []),
  .for (.tp [.nm 3, .nm 4]) .enum [.v 0] ir_checked_b1,
  .ret (.c (.bl true))]
abbrev sl_checked : List Str := ["plan", "widths", "names", "place", "step"]
def di_checked : DI := ⟨"checked", "checked", top 36, sl_checked, ["plan"], ⟨[false], 5, ir_checked⟩⟩
/-! _law_at(_law_script, _law_k)  -/
def ir_law_at : List S := [.ifS (.cmp .lt (.b 1) (.fn .len [.b 0])) [.ret (.ix (.b 0) (.b 1))] [],
  .ret (.c (.int 0))]
abbrev sl_law_at : List Str := ["_law_script", "_law_k"]
def di_law_at : DI := ⟨"_law_at", "_law_at", top 38, sl_law_at, ["_law_script", "_law_k"], ⟨[false, false], 2, ir_law_at⟩⟩
/-! _law_whole(_law_thing)  -/
def ir_law_whole : List S := [.ret (.and (.isi (.b 0) [.int]) (.not (.isi (.b 0) [.bool])))]
abbrev sl_law_whole : List Str := ["_law_thing"]
def di_law_whole : DI := ⟨"_law_whole", "_law_whole", top 39, sl_law_whole, ["_law_thing"], ⟨[false], 1, ir_law_whole⟩⟩
/-! _law_is_name(_law_thing)  -/
def ir_law_is_name_e1 : E := .v 1
def ir_law_is_name_c2 : E := .cmp .notin (.b 1) (.c (.str S_abcdefghijklmnopqrstuvwx_c3fc))
def ir_law_is_name : List S := [.ifS (.or (.not (.isi (.b 0) [.str])) (.not (.chain .le .le (.c (.int 1)) (.fn .len [.b 0]) (.c (.int 12))))) [.ret (.c (.bl false))] [],
  .ret (.cmp .eq (.comp ir_law_is_name_e1 (.nm 1) .val [.b 0] [ir_law_is_name_c2]) (.lst []))]
abbrev sl_law_is_name : List Str := ["_law_thing", "_law_sign"]
def di_law_is_name : DI := ⟨"_law_is_name", "_law_is_name", top 40, sl_law_is_name, ["_law_thing"], ⟨[false], 2, ir_law_is_name⟩⟩
/-! _law_is_among(_law_thing, _law_least, _law_most)  -/
def ir_law_is_among : List S := [.ret (.and (.isi (.b 0) [.int]) (.and (.not (.isi (.b 0) [.bool])) (.chain .le .le (.b 1) (.b 0) (.b 2))))]
abbrev sl_law_is_among : List Str := ["_law_thing", "_law_least", "_law_most"]
def di_law_is_among : DI := ⟨"_law_is_among", "_law_is_among", top 41, sl_law_is_among, ["_law_thing", "_law_least", "_law_most"], ⟨[false, false, false], 3, ir_law_is_among⟩⟩
/-! _law_called(_law_cell, _law_k, _law_signs)  -/
def ir_law_called_e1 : E := .ix (.b 3) (.bin .mod (.bin .add (.b 4) (.bin .mul (.bin .mul (.c (.int 5)) (.b 7)) (.bin .add (.c (.int 1)) (.bin .mod (.b 4) (.c (.int 3)))))) (.c (.int 26)))
def ir_law_called : List S := [.set (.nm 3) (.c (.str S_abcdefghijklmnopqrstuvwx_c3fc)),
  .set (.nm 4) (.bin .add (.b 0) (.bin .mul (.bin .mul (.c (.int 31)) (.b 1)) (.bin .mod (.b 0) (.c (.int 2))))),
  .set (.nm 5) (.bin .mod (.bin .fdiv (.b 4) (.c (.int 26))) (.bin .sub (.c (.int 13)) (.fn .len [.b 2]))),
  .set (.nm 6) (.meth .join (.c (.str S__d41d)) [.comp ir_law_called_e1 (.nm 7) .range [.b 5] []]),
  .set (.nm 8) (.v 5),
  .ifS (.cmp .eq (.bin .mod (.b 0) (.c (.int 2))) (.c (.int 0))) [.set (.nm 8) (.bin .mod (.bin .fdiv (.b 0) (.c (.int 4))) (.bin .add (.b 5) (.c (.int 1))))] [],
  .ret (.bin .add (.bin .add (.sl (.b 6) [] [.b 8]) (.b 2)) (.sl (.b 6) [.b 8] []))]
abbrev sl_law_called : List Str := ["_law_cell", "_law_k", "_law_signs", "_law_letters", "_law_turned", "_law_size", "_law_tail", "_law_j", "_law_at_here"]
def di_law_called : DI := ⟨"_law_called", "_law_called", top 42, sl_law_called, ["_law_cell", "_law_k", "_law_signs"], ⟨[false, false, false], 9, ir_law_called⟩⟩
/-! _law_is_step(_law_thing)  -/
def ir_law_is_step : List S := [.ifS (.or (.not (.isi (.b 0) [.tuple])) (.or (.cmp .lt (.fn .len [.b 0]) (.c (.int 3))) (.not (.call ix_law_is_name [.ix (.b 0) (.c (.int 1))])))) [.ret (.c (.bl false))] [],
  .set (.nm 1) (.dct [.c (.str S_take), .c (.int 3), .c (.str S_only), .c (.int 5), .c (.str S_turn), .c (.int 5), .c (.str S_both), .c (.int 4), .c (.str S_join), .c (.int 5), .c (.str S_each), .c (.int 6), .c (.str S_gap), .c (.int 5)]),
  .ifS (.or (.not (.isi (.ix (.b 0) (.c (.int 0))) [.str])) (.or (.cmp .ne (.get (.b 1) (.ix (.b 0) (.c (.int 0))) (.c (.int 0))) (.fn .len [.b 0])) (.not (.call ix_law_is_name [.ix (.b 0) (.c (.int 2))])))) [.ret (.c (.bl false))] [],
  .ifS (.and (.cmp .eq (.ix (.b 0) (.c (.int 0))) (.c (.str S_only))) (.not (.call ix_law_is_among [.ix (.b 0) (.c (.int 4)), .bin .sub (.c (.int 0)) (.c (.int 1000000000)), .c (.int 1000000000)]))) [.ret (.c (.bl false))] [],
  .ifS (.cmp .eq (.ix (.b 0) (.c (.int 0))) (.c (.str S_only))) [.ret (.call ix_law_is_among [.ix (.b 0) (.c (.int 3)), .bin .sub (.c (.int 0)) (.c (.int 1000000000)), .ix (.b 0) (.c (.int 4))])] [],
  .ifS (.cmp .eq (.ix (.b 0) (.c (.int 0))) (.c (.str S_turn))) [.ret (.and (.call ix_law_is_among [.ix (.b 0) (.c (.int 3)), .bin .sub (.c (.int 0)) (.c (.int 9)), .c (.int 9)]) (.call ix_law_is_among [.ix (.b 0) (.c (.int 4)), .bin .sub (.c (.int 0)) (.c (.int 1000000000)), .c (.int 1000000000)]))] [],
  .ifS (.or (.cmp .eq (.ix (.b 0) (.c (.int 0))) (.c (.str S_both))) (.cmp .eq (.ix (.b 0) (.c (.int 0))) (.c (.str S_join)))) [.ret (.and (.call ix_law_is_name [.ix (.b 0) (.c (.int 3))]) (.or (.cmp .eq (.fn .len [.b 0]) (.c (.int 4))) (.call ix_law_is_among [.ix (.b 0) (.c (.int 4)), .c (.int 0), .c (.int 1000000)])))] [],
  .ifS (.cmp .eq (.ix (.b 0) (.c (.int 0))) (.c (.str S_take))) [.ret (.c (.bl true))] [],
  .ifS (.or (.not (.isi (.ix (.b 0) (.c (.int 3))) [.str])) (.cmp .notin (.ix (.b 0) (.c (.int 3))) (.tup [.c (.str S_count), .c (.str S_sum), .c (.str S_least), .c (.str S_greatest)]))) [.ret (.c (.bl false))] [],
  .ifS (.cmp .eq (.ix (.b 0) (.c (.int 0))) (.c (.str S_gap))) [.ret (.call ix_law_is_among [.ix (.b 0) (.c (.int 4)), .c (.int 0), .c (.int 1000000)])] [],
  .ifS (.or (.not (.call ix_law_is_among [.ix (.b 0) (.c (.int 4)), .c (.int 1), .c (.int 1000000)])) (.not (.call ix_law_is_among [.ix (.b 0) (.c (.int 5)), .c (.int 1), .ix (.b 0) (.c (.int 4))]))) [.ret (.c (.bl false))] [],
  .ret (.cmp .le (.ix (.b 0) (.c (.int 4))) (.bin .mul (.c (.int 20)) (.ix (.b 0) (.c (.int 5)))))]
abbrev sl_law_is_step : List Str := ["_law_thing", "_law_size"]
def di_law_is_step : DI := ⟨"_law_is_step", "_law_is_step", top 43, sl_law_is_step, ["_law_thing"], ⟨[false], 2, ir_law_is_step⟩⟩
/-! _law_number(_law_cell, _law_most)  -/
def ir_law_number : List S := [.ifS (.cmp .eq (.bin .mod (.b 0) (.c (.int 4))) (.c (.int 0))) [.ret (.bin .mod (.bin .fdiv (.b 0) (.c (.int 4))) (.bin .add (.b 1) (.c (.int 1))))] [],
  .ifS (.cmp .eq (.bin .mod (.b 0) (.c (.int 4))) (.c (.int 1))) [.ret (.bin .sub (.b 1) (.bin .mod (.bin .fdiv (.b 0) (.c (.int 4))) (.c (.int 2))))] [],
  .ret (.bin .mod (.bin .fdiv (.b 0) (.c (.int 4))) (.fn .min [.c (.int 13), .bin .add (.b 1) (.c (.int 1))]))]
abbrev sl_law_number : List Str := ["_law_cell", "_law_most"]
def di_law_number : DI := ⟨"_law_number", "_law_number", top 44, sl_law_number, ["_law_cell", "_law_most"], ⟨[false, false], 2, ir_law_number⟩⟩
/-! _law_step(_law_cell, _law_name, _law_streams, _law_kind)  -/
def ir_law_step : List S := [.set (.nm 4) (.bin .mod (.b 0) (.c (.int 8))),
  .set (.nm 5) (.ite (.cmp .ne (.b 2) (.lst [])) (.ix (.b 2) (.bin .mod (.bin .fdiv (.b 0) (.c (.int 8))) (.fn .len [.b 2]))) (.c (.str S__d41d))),
  .set (.nm 6) (.ite (.cmp .ne (.b 2) (.lst [])) (.ix (.b 2) (.bin .mod (.bin .fdiv (.b 0) (.c (.int 160))) (.fn .len [.b 2]))) (.c (.str S__d41d))),
  .set (.nm 7) (.bin .add (.bin .fdiv (.b 0) (.c (.int 3200))) (.bin .mod (.bin .mul (.bin .fdiv (.b 0) (.c (.int 8))) (.c (.int 48271))) (.c (.int 2147483647)))),
  .set (.nm 8) (.ix (.lst [.c (.str S_count), .c (.str S_sum), .c (.str S_least), .c (.str S_greatest)]) (.bin .mod (.b 7) (.c (.int 4)))),
  .ifS (.or (.cmp .lt (.b 4) (.c (.int 2))) (.cmp .eq (.b 2) (.lst []))) [.ret (.tup [.c (.str S_take), .v 1, .v 3])] [],
  .ifS (.cmp .eq (.b 4) (.c (.int 2))) [.set (.nm 9) (.bin .sub (.call ix_law_number [.v 7, .c (.int 1000000000)]) (.bin .mul (.c (.int 1000000000)) (.bin .mod (.bin .fdiv (.b 7) (.c (.int 8))) (.c (.int 2))))), .set (.nm 10) (.bin .add (.b 9) (.call ix_law_number [.bin .fdiv (.b 7) (.c (.int 16)), .c (.int 1000000)])), .ifS (.cmp .eq (.bin .mod (.bin .fdiv (.b 7) (.c (.int 32))) (.c (.int 2))) (.c (.int 1))) [.set (.nm 10) (.bin .sub (.c (.int 1000000000)) (.call ix_law_number [.bin .fdiv (.b 7) (.c (.int 16)), .c (.int 1000000000)]))] [], .ifS (.cmp .eq (.bin .mod (.bin .fdiv (.b 7) (.c (.int 64))) (.c (.int 2))) (.c (.int 1))) [.set (.nm 9) (.bin .sub (.bin .mod (.bin .fdiv (.b 7) (.c (.int 128))) (.c (.int 21))) (.c (.int 10))), .set (.nm 10) (.bin .add (.b 9) (.bin .mod (.bin .fdiv (.b 7) (.c (.int 2688))) (.c (.int 21))))] [], .ret (.tup [.c (.str S_only), .v 1, .v 5, .v 9, .fn .max [.b 9, .fn .min [.c (.int 1000000000), .b 10]]])] [],
  .ifS (.cmp .eq (.b 4) (.c (.int 3))) [.ret (.tup [.c (.str S_turn), .v 1, .v 5, .bin .sub (.bin .mod (.bin .fdiv (.b 7) (.c (.int 4))) (.c (.int 19))) (.c (.int 9)), .bin .sub (.call ix_law_number [.bin .fdiv (.b 7) (.c (.int 80)), .c (.int 2000000000)]) (.c (.int 1000000000))])] [],
  .ifS (.cmp .eq (.b 4) (.c (.int 4))) [.ret (.tup [.c (.str S_both), .v 1, .v 5, .v 6])] [],
  .ifS (.cmp .eq (.b 4) (.c (.int 5))) [.ret (.tup [.c (.str S_join), .v 1, .v 5, .v 6, .call ix_law_number [.v 7, .c (.int 1000000)]])] [],
  .ifS (.cmp .eq (.b 4) (.c (.int 6))) [.set (.nm 11) (.bin .add (.c (.int 1)) (.call ix_law_number [.bin .fdiv (.b 7) (.c (.int 4)), .ix (.lst [.c (.int 49999), .c (.int 999999)]) (.bin .mod (.bin .fdiv (.b 7) (.c (.int 256))) (.c (.int 2)))])), .ret (.tup [.c (.str S_each), .v 1, .v 5, .v 8, .fn .min [.c (.int 1000000), .bin .add (.b 11) (.call ix_law_number [.bin .fdiv (.b 7) (.c (.int 64)), .bin .mul (.c (.int 19)) (.b 11)])], .v 11])] [],
  .ret (.tup [.c (.str S_gap), .v 1, .v 5, .v 8, .call ix_law_number [.bin .fdiv (.b 7) (.c (.int 4)), .c (.int 1000000)]])]
abbrev sl_law_step : List Str := ["_law_cell", "_law_name", "_law_streams", "_law_kind", "_law_way", "_law_one", "_law_other", "_law_more", "_law_tally", "_law_low", "_law_high", "_law_step_here"]
def di_law_step : DI := ⟨"_law_step", "_law_step", top 45, sl_law_step, ["_law_cell", "_law_name", "_law_streams", "_law_kind"], ⟨[false, false, false, false], 12, ir_law_step⟩⟩
/-! _law_wide(_law_step_here, _law_widths) _law_widths -/
def ir_law_wide : List S := [.ifS (.cmp .eq (.ix (.b 0) (.c (.int 0))) (.c (.str S_take))) [.ret (.c (.int 1))] [],
  .ifS (.or (.cmp .eq (.ix (.b 0) (.c (.int 0))) (.c (.str S_both))) (.cmp .eq (.ix (.b 0) (.c (.int 0))) (.c (.str S_join)))) [.ret (.bin .add (.ix (.b 1) (.ix (.b 0) (.c (.int 2)))) (.ix (.b 1) (.ix (.b 0) (.c (.int 3)))))] [],
  .ret (.ix (.b 1) (.ix (.b 0) (.c (.int 2))))]
abbrev sl_law_wide : List Str := ["_law_step_here", "_law_widths"]
def di_law_wide : DI := ⟨"_law_wide", "_law_wide", top 46, sl_law_wide, ["_law_step_here", "_law_widths"], ⟨[false, true], 2, ir_law_wide⟩⟩
/-! _law_step_name(_law_base, _law_k, _law_signs)  -/
def ir_law_step_name : List S := [.set (.nm 3) (.lst [.c (.str S_take), .c (.str S_only), .c (.str S_turn), .c (.str S_both), .c (.str S_join), .c (.str S_each), .c (.str S_gap), .c (.str S_count), .c (.str S_sum), .c (.str S_least), .c (.str S_greatest), .c (.str S_late), .c (.str S_end)]),
  .ifS (.and (.cmp .eq (.bin .mod (.b 0) (.c (.int 9))) (.c (.int 4))) (.cmp .lt (.b 1) (.c (.int 13)))) [.ret (.ix (.b 3) (.bin .mod (.bin .add (.b 1) (.bin .fdiv (.b 0) (.c (.int 9)))) (.c (.int 13))))] [],
  .ret (.call ix_law_called [.v 0, .v 1, .v 2])]
abbrev sl_law_step_name : List Str := ["_law_base", "_law_k", "_law_signs", "_law_words"]
def di_law_step_name : DI := ⟨"_law_step_name", "_law_step_name", top 47, sl_law_step_name, ["_law_base", "_law_k", "_law_signs"], ⟨[false, false, false], 4, ir_law_step_name⟩⟩
/-! _law_plan(_law_script, _law_first, _law_most)  -/
def ir_law_plan_b1 : List S := [.set (.nm 8) (.bin .add (.bin .add (.call ix_law_at [.v 0, .bin .add (.bin .add (.b 1) (.c (.int 2))) (.bin .mod (.b 7) (.c (.int 9)))]) (.bin .mul (.c (.int 7919)) (.bin .fdiv (.b 7) (.c (.int 9))))) (.b 7)), .set (.nm 9) (.call ix_law_called [.v 3, .v 7, .bin .add (.ix (.b 4) (.bin .fdiv (.b 7) (.c (.int 26)))) (.ix (.b 4) (.bin .mod (.b 7) (.c (.int 26))))]), .ifS (.cmp .eq (.b 2) (.c (.int 12))) [.set (.nm 9) (.call ix_law_step_name [.v 3, .v 7, .bin .add (.ix (.b 4) (.c (.int 0))) (.ix (.b 4) (.b 7))])] [], .set (.nm 10) (.call ix_law_called [.bin .fdiv (.b 3) (.c (.int 7)), .bin .mod (.bin .fdiv (.b 8) (.c (.int 3200))) (.c (.int 4)), .ix (.c (.str S_mnop)) (.bin .mod (.bin .fdiv (.b 8) (.c (.int 3200))) (.c (.int 4)))]), .set (.nm 11) (.call ix_law_step [.v 8, .v 9, .fn .list [.b 6], .v 10]), .ifS (.cmp .gt (.call ix_law_wide [.v 11, .b 6]) (.c (.int 32))) [.set (.nm 11) (.tup [.c (.str S_take), .v 9, .v 10])] [], .mut "append" 5 [.v 11], .ifS (.and (.cmp .ne (.ix (.b 11) (.c (.int 0))) (.c (.str S_each))) (.cmp .ne (.ix (.b 11) (.c (.int 0))) (.c (.str S_gap)))) [.setD 6 (.b 9) (.call ix_law_wide [.v 11, .b 6])] []]
def ir_law_plan : List S := [.set (.nm 3) (.call ix_law_at [.v 0, .v 1]),
  .set (.nm 4) (.c (.str S_abcdefghijklmnopqrstuvwx_c3fc)),
  .set (.nm 5) (.lst []),
  .set (.nm 6) (.dct []),
  .for (.nm 7) .range [.bin .mod (.call ix_law_at [.v 0, .bin .add (.b 1) (.c (.int 1))]) (.bin .add (.b 2) (.c (.int 1)))] ir_law_plan_b1,
  .ret (.v 5)]
abbrev sl_law_plan : List Str := ["_law_script", "_law_first", "_law_most", "_law_base", "_law_letters", "_law_plan_here", "_law_widths", "_law_k", "_law_cell", "_law_name", "_law_kind", "_law_step_here"]
def di_law_plan : DI := ⟨"_law_plan", "_law_plan", top 48, sl_law_plan, ["_law_script", "_law_first", "_law_most"], ⟨[false, false, false], 12, ir_law_plan⟩⟩
/-! _law_bad(_law_plan_here)  -/
def ir_law_bad_e1 : E := .v 6
def ir_law_bad_c2 : E := .cmp .notin (.b 6) (.b 1)
def ir_law_bad_b3 : List S := [.ifS (.or (.not (.call ix_law_is_step [.v 4])) (.cmp .isin (.ix (.b 4) (.c (.int 1))) (.b 2))) [.ret (.tup [.c (.bl true), .v 3])] [], .set (.nm 5) (.ite (.cmp .isin (.ix (.b 4) (.c (.int 0))) (.tup [.c (.str S_both), .c (.str S_join)])) (.sl (.b 4) [.c (.int 2)] [.c (.int 4)]) (.sl (.b 4) [.c (.int 2)] [.c (.int 3)])), .ifS (.and (.cmp .ne (.ix (.b 4) (.c (.int 0))) (.c (.str S_take))) (.cmp .ne (.comp ir_law_bad_e1 (.nm 6) .val [.b 5] [ir_law_bad_c2]) (.lst []))) [.ret (.tup [.c (.bl true), .v 3])] [], .mut "append" 2 [.ix (.b 4) (.c (.int 1))], .ifS (.cmp .gt (.call ix_law_wide [.v 4, .b 1]) (.c (.int 32))) [.ret (.tup [.c (.bl true), .v 3])] [], .ifS (.and (.cmp .ne (.ix (.b 4) (.c (.int 0))) (.c (.str S_each))) (.cmp .ne (.ix (.b 4) (.c (.int 0))) (.c (.str S_gap)))) [.setD 1 (.ix (.b 4) (.c (.int 1))) (.call ix_law_wide [.v 4, .b 1])] []]
def ir_law_bad : List S := [.ifS (.or (.not (.isi (.b 0) [.list])) (.cmp .gt (.fn .len [.b 0]) (.c (.int 30)))) [.ret (.tup [.c (.bl true), .c .non])] [],
  .set (.nm 1) (.dct []),
  .set (.nm 2) (.lst []),
  .for (.tp [.nm 3, .nm 4]) .enum [.v 0] ir_law_bad_b3,
  .ret (.tup [.c (.bl false), .c .non])]
abbrev sl_law_bad : List Str := ["_law_plan_here", "_law_widths", "_law_names", "_law_place", "_law_step_here", "_law_some", "_law_name"]
def di_law_bad : DI := ⟨"_law_bad", "_law_bad", top 49, sl_law_bad, ["_law_plan_here"], ⟨[false], 7, ir_law_bad⟩⟩
/-! _law_spoilt(_law_plan_here, _law_cell, _law_more)  -/
def ir_law_spoilt_e1 : E := .ix (.b 5) (.c (.int 1))
def ir_law_spoilt_c2 : E := .and (.isi (.b 5) [.tuple]) (.cmp .ne (.b 5) (.tup []))
def ir_law_spoilt_e3 : E := .ix (.b 5) (.c (.int 1))
def ir_law_spoilt_c4 : E := .and (.isi (.b 5) [.tuple]) (.cmp .ne (.b 5) (.tup []))
def ir_law_spoilt_e5 : E := .ix (.b 5) (.c (.int 1))
def ir_law_spoilt_c6 : E := .and (.isi (.b 5) [.tuple]) (.cmp .isin (.sl (.b 5) [] [.c (.int 1)]) (.tup [.tup [.c (.str S_each)], .tup [.c (.str S_gap)]]))
def ir_law_spoilt_b7 : List S := [.set (.nm 13) (.ix (.lst [.bin .add (.c (.str S_w)) (.ix (.c (.str S_zabcdefg)) (.b 12)), .v 6]) (.fn .int [.cmp .eq (.b 12) (.c (.int 0))])), .set (.nm 5) (.tup [.c (.str S_both), .bin .add (.c (.str S_w)) (.ix (.c (.str S_abcdefg)) (.b 12)), .v 13, .v 13]), .ifS (.and (.cmp .eq (.bin .mod (.bin .fdiv (.b 2) (.c (.int 28))) (.c (.int 2))) (.c (.int 1))) (.cmp .gt (.b 12) (.c (.int 0)))) [.set (.nm 5) (.tup [.c (.str S_join), .bin .add (.c (.str S_w)) (.ix (.c (.str S_abcdefg)) (.b 12)), .v 13, .v 13, .c (.int 1)])] [], .mut "insert" 0 [.bin .add (.b 3) (.b 12), .v 5]]
def ir_law_spoilt : List S := [.set (.nm 0) (.fn .list [.b 0]),
  .set (.nm 3) (.bin .mod (.bin .fdiv (.b 1) (.c (.int 14))) (.bin .add (.fn .len [.b 0]) (.c (.int 1)))),
  .ifS (.cmp .eq (.bin .mod (.bin .fdiv (.b 1) (.c (.int 7))) (.c (.int 2))) (.c (.int 1))) [.set (.nm 3) (.fn .len [.b 0])] [],
  .set (.nm 4) (.bin .add (.comp ir_law_spoilt_e1 (.nm 5) .val [.b 0] [ir_law_spoilt_c2]) (.lst [.c (.str S_q)])),
  .ifS (.cmp .gt (.bin .mod (.b 2) (.c (.int 4))) (.c (.int 0))) [.set (.nm 4) (.bin .add (.comp ir_law_spoilt_e3 (.nm 5) .val [.sl (.b 0) [] [.b 3]] [ir_law_spoilt_c4]) (.lst [.c (.str S_q)]))] [],
  .set (.nm 6) (.ix (.b 4) (.bin .mod (.bin .fdiv (.b 1) (.c (.int 28))) (.fn .len [.b 4]))),
  .set (.nm 7) (.ix (.b 4) (.bin .mod (.bin .fdiv (.b 2) (.c (.int 4))) (.fn .len [.b 4]))),
  .set (.nm 8) (.lst [.tup [.c (.str S_take), .c (.str S_new), .c (.str S__d41d)], .lst [.c (.str S_take), .c (.str S_new), .c (.str S_k)], .tup [.c (.str S_take), .v 7, .c (.str S_k)], .tup [.c (.str S_only), .c (.str S_new), .v 7, .c (.int 0), .c (.int 9)]]),
  .set (.nm 8) (.bin .add (.b 8) (.lst [.tup [.c (.str S_gap), .c (.str S_new), .c (.str S_unknown), .c (.str S_sum), .c (.int 3)], .tup [.c (.str S_join), .c (.str S_new), .v 7, .v 6, .c (.int 3)], .tup [.c (.str S_both), .c (.str S_new), .v 6, .v 7]])),
  .set (.nm 9) (.lst [.tup [.c (.str S_each), .c (.str S_new), .v 7, .c (.str S_count), .c (.int 4), .c (.int 2)], .tup [.c (.str S_each), .c (.str S_new), .v 7, .c (.str S_sum), .c (.int 1000001), .c (.int 1000001)]]),
  .set (.nm 8) (.bin .add (.b 8) (.lst [.ix (.b 9) (.bin .mod (.bin .fdiv (.b 2) (.c (.int 8))) (.c (.int 2))), .tup [.c (.str S_turn), .c (.str S_new), .c (.str S__d41d), .c (.int 1), .c (.int 1)], .c .non, .ix (.lst [.c (.int 5), .tup []]) (.bin .mod (.bin .fdiv (.b 2) (.c (.int 8))) (.c (.int 2)))])),
  .set (.nm 10) (.bin .mod (.b 1) (.c (.int 14))),
  .set (.nm 11) (.comp ir_law_spoilt_e5 (.nm 5) .val [.sl (.b 0) [] [.b 3]] [ir_law_spoilt_c6]),
  .ifS (.and (.cmp .eq (.b 10) (.c (.int 13))) (.cmp .ne (.b 11) (.lst []))) [.mut "insert" 0 [.v 3, .tup [.c (.str S_take), .ix (.b 11) (.bin .mod (.b 2) (.fn .len [.b 11])), .c (.str S_k)]], .ret (.v 0)] [],
  .ifS (.cmp .lt (.b 10) (.c (.int 11))) [.setSl 0 [.b 3] [.bin .add (.b 3) (.bin .mod (.bin .fdiv (.b 2) (.c (.int 64))) (.c (.int 2)))] (.lst [.ix (.b 8) (.b 10)]), .ret (.v 0)] [],
  .for (.nm 12) .range [.ix (.lst [.c (.int 3), .c (.int 4), .c (.int 5), .c (.int 5), .c (.int 1), .c (.int 6), .c (.int 5)]) (.bin .mod (.bin .fdiv (.b 2) (.c (.int 4))) (.c (.int 7)))] ir_law_spoilt_b7,
  .ret (.v 0)]
abbrev sl_law_spoilt : List Str := ["_law_plan_here", "_law_cell", "_law_more", "_law_at_here", "_law_names", "_law_step_here", "_law_name", "_law_other", "_law_some", "_law_great", "_law_way", "_law_told", "_law_k", "_law_ahead"]
def di_law_spoilt : DI := ⟨"_law_spoilt", "_law_spoilt", top 50, sl_law_spoilt, ["_law_plan_here", "_law_cell", "_law_more"], ⟨[false, false, false], 14, ir_law_spoilt⟩⟩
/-! _law_said(_law_plan_here)  -/
def ir_law_said_t1 : List S := [.ret (.tup [.c (.str S_fine), .call ix_checked [.v 0]])]
def ir_law_said_h2 : List S := [.set (.nm 2) (.isx 1 [cx_BadSlack, cx_Broken, cx_BadEvent, cx_BadLine, cx_BadKeep]), .ifS (.or (.v 2) (.or (.not (.isx 1 [7])) (.not (.isx 1 [cx_BadStep])))) [.ret (.tup [.c (.str S_other), .c .non])] [], .ret (.tup [.c (.str S_bad), .xpl 1])]
def ir_law_said : List S := [.tryE ir_law_said_t1 cx_FlowError 1 ir_law_said_h2]
abbrev sl_law_said : List Str := ["_law_plan_here", "error", "_law_others"]
def di_law_said : DI := ⟨"_law_said", "_law_said", top 51, sl_law_said, ["_law_plan_here"], ⟨[false], 3, ir_law_said⟩⟩
/-! law(_law_script)  -/
def ir_law_e1 : E := .tup [.c (.str S_take), .bin .add (.bin .add (.c (.str S_n)) (.ix (.c (.str S_abcdefgh)) (.bin .mod (.b 6) (.c (.int 8))))) (.ix (.c (.str S_abcd)) (.bin .fdiv (.b 6) (.c (.int 8)))), .c (.str S_k)]
def ir_law : List S := [.ifS (.or (.cmp .ne (.c (.int 30)) (.c (.int 30))) (.cmp .ne (.c (.int 32)) (.c (.int 32)))) [.ret (.c (.bl false))] [],
  .set (.nm 1) (.c (.int 12)),
  .ifS (.cmp .eq (.bin .mod (.call ix_law_at [.v 0, .c (.int 0)]) (.c (.int 9))) (.c (.int 4))) [.set (.nm 1) (.c (.int 30))] [],
  .set (.nm 2) (.call ix_law_plan [.v 0, .c (.int 1), .v 1]),
  .set (.nm 3) (.bin .fdiv (.call ix_law_at [.v 0, .c (.int 0)]) (.c (.int 9))),
  .ifS (.cmp .gt (.bin .mod (.b 3) (.c (.int 5))) (.c (.int 0))) [.set (.nm 2) (.call ix_law_spoilt [.v 2, .call ix_law_at [.v 0, .c (.int 12)], .call ix_law_at [.v 0, .c (.int 13)]])] [],
  .ifS (.and (.cmp .eq (.bin .mod (.b 3) (.c (.int 5))) (.c (.int 2))) (.cmp .lt (.fn .len [.b 2]) (.c (.int 30)))) [.set (.nm 2) (.call ix_law_spoilt [.v 2, .call ix_law_at [.v 0, .c (.int 14)], .call ix_law_at [.v 0, .c (.int 15)]])] [],
  .ifS (.cmp .eq (.bin .mod (.b 3) (.c (.int 15))) (.c (.int 3))) [.set (.nm 4) (.bin .add (.c (.int 30)) (.bin .mod (.bin .fdiv (.b 3) (.c (.int 15))) (.c (.int 2)))), .set (.nm 5) (.comp ir_law_e1 (.nm 6) .range [.b 4] []), .set (.nm 2) (.ix (.lst [.fn .tuple [.b 2], .c .non, .v 5]) (.bin .mod (.bin .fdiv (.b 3) (.c (.int 30))) (.c (.int 3))))] [],
  .set (.nm 7) (.ite (.isi (.b 2) [.list]) (.fn .list [.b 2]) (.v 2)),
  .set (.tp [.nm 8, .nm 9]) (.call ix_law_bad [.v 2]),
  .set (.nm 10) (.call ix_law_said [.v 7]),
  .ifS (.or (.cmp .ne (.b 7) (.b 2)) (.cmp .ne (.ix (.b 10) (.c (.int 0))) (.ix (.lst [.c (.str S_fine), .c (.str S_bad)]) (.fn .int [.b 8])))) [.ret (.c (.bl false))] [],
  .ifS (.not (.v 8)) [.ret (.cmp .is (.ix (.b 10) (.c (.int 1))) (.c (.bl true)))] [],
  .ifS (.cmp .is (.b 9) (.c .non)) [.ret (.cmp .is (.ix (.b 10) (.c (.int 1))) (.c .non))] [],
  .ret (.and (.call ix_law_whole [.ix (.b 10) (.c (.int 1))]) (.cmp .eq (.ix (.b 10) (.c (.int 1))) (.b 9)))]
abbrev sl_law : List Str := ["_law_script", "_law_most", "_law_plan_here", "_law_cell", "_law_many", "_law_steps", "_law_k", "_law_handed", "_law_is_bad", "_law_place", "_law_found"]
def di_law : DI := ⟨"law", "law", top 52, sl_law, ["_law_script"], ⟨[false], 11, ir_law⟩⟩
def dis : List DI := [di_is_whole, di_is_among, di_is_name, di_is_amount, di_is_tally, di_is_stream, di_is_range, di_is_turn, di_is_window, di_is_telling, di_is_step, di_name_of, di_feeders, di_is_teller, di_width, di_is_fed, di_checked, di_law_at, di_law_whole, di_law_is_name, di_law_is_among, di_law_called, di_law_is_step, di_law_number, di_law_step, di_law_wide, di_law_step_name, di_law_plan, di_law_bad, di_law_spoilt, di_law_said, di_law]
def pinf : PInf := ⟨[("is_whole", 0, [false]), ("is_among", 1, [false, false, false]), ("is_name", 2, [false]), ("is_amount", 3, [false]), ("is_tally", 4, [false]), ("is_stream", 5, [false]), ("is_range", 6, [false, false]), ("is_turn", 7, [false, false]), ("is_window", 8, [false, false]), ("is_telling", 9, [false]), ("is_step", 10, [false]), ("name_of", 11, [false]), ("feeders", 12, [false]), ("is_teller", 13, [false]), ("width", 14, [false, true]), ("is_fed", 15, [false, true]), ("checked", 16, [false]), ("_law_at", 17, [false, false]), ("_law_whole", 18, [false]), ("_law_is_name", 19, [false]), ("_law_is_among", 20, [false, false, false]), ("_law_called", 21, [false, false, false]), ("_law_is_step", 22, [false]), ("_law_number", 23, [false, false]), ("_law_step", 24, [false, false, false, false]), ("_law_wide", 25, [false, true]), ("_law_step_name", 26, [false, false, false]), ("_law_plan", 27, [false, false, false]), ("_law_bad", 28, [false]), ("_law_spoilt", 29, [false, false, false]), ("_law_said", 30, [false]), ("law", 31, [false])], [("LETTERS", (.str S_abcdefghijklmnopqrstuvwx_c3fc)), ("MOST_AMOUNT", (.int 1000000000)), ("MOST_LETTERS", (.int 12)), ("MOST_SIZE", (.int 1000000)), ("MOST_STEPS", (.int 30)), ("MOST_TIMES", (.int 9)), ("MOST_WIDE", (.int 32)), ("MOST_WINDOWS", (.int 20)), ("MOST_WITHIN", (.int 1000000))], ["ValueError", "bool", "enumerate", "int", "isinstance", "len", "list", "max", "min", "range", "str", "sum", "tuple"], [], [], [], [("BadStep", 4)], [("FlowError", 0), ("BadEvent", 1), ("BadSlack", 2), ("Broken", 3), ("BadStep", 4), ("BadLine", 5), ("BadKeep", 6)], 7⟩
def fokL : List (Nat × Str) := []
def fok (c : Nat) (f : Str) : Bool := decide ((c, f) ∈ fokL)
def supL : List (List Nat) := [[0, 7], [1, 0, 7], [2, 0, 7], [3, 0, 7], [4, 0, 7], [5, 0, 7], [6, 0, 7]]
def sub (c d : Nat) : Bool := (supL.getD c []).contains d
theorem dis_ok : dis.all (fun di => di.ok pinf) = true := by decide +kernel
theorem fns_ok : fnsB dis pinf = true := by decide +kernel
def fuel : Nat := 1000000
noncomputable def T : Tb := ⟨dis.map (·.d), fuel, fok, sub⟩
@[simp] theorem T_fok : T.fok = fok := rfl
@[simp] theorem T_sub : T.sub = sub := rfl
theorem cl_is_whole {k : Nat} {os : Os} {ds : List D} (h : ds.length = 1) : call T (k + 1) ix_is_whole ds os = outF (execB (T.cf k) ir_is_whole ⟨envOf [false] 1 ds, os⟩) := call_eq (d := di_is_whole.d) rfl h
theorem cl_is_among {k : Nat} {os : Os} {ds : List D} (h : ds.length = 3) : call T (k + 1) ix_is_among ds os = outF (execB (T.cf k) ir_is_among ⟨envOf [false, false, false] 3 ds, os⟩) := call_eq (d := di_is_among.d) rfl h
theorem cl_is_name {k : Nat} {os : Os} {ds : List D} (h : ds.length = 1) : call T (k + 1) ix_is_name ds os = outF (execB (T.cf k) ir_is_name ⟨envOf [false] 2 ds, os⟩) := call_eq (d := di_is_name.d) rfl h
theorem cl_is_amount {k : Nat} {os : Os} {ds : List D} (h : ds.length = 1) : call T (k + 1) ix_is_amount ds os = outF (execB (T.cf k) ir_is_amount ⟨envOf [false] 1 ds, os⟩) := call_eq (d := di_is_amount.d) rfl h
theorem cl_is_tally {k : Nat} {os : Os} {ds : List D} (h : ds.length = 1) : call T (k + 1) ix_is_tally ds os = outF (execB (T.cf k) ir_is_tally ⟨envOf [false] 1 ds, os⟩) := call_eq (d := di_is_tally.d) rfl h
theorem cl_is_stream {k : Nat} {os : Os} {ds : List D} (h : ds.length = 1) : call T (k + 1) ix_is_stream ds os = outF (execB (T.cf k) ir_is_stream ⟨envOf [false] 1 ds, os⟩) := call_eq (d := di_is_stream.d) rfl h
theorem cl_is_range {k : Nat} {os : Os} {ds : List D} (h : ds.length = 2) : call T (k + 1) ix_is_range ds os = outF (execB (T.cf k) ir_is_range ⟨envOf [false, false] 2 ds, os⟩) := call_eq (d := di_is_range.d) rfl h
theorem cl_is_turn {k : Nat} {os : Os} {ds : List D} (h : ds.length = 2) : call T (k + 1) ix_is_turn ds os = outF (execB (T.cf k) ir_is_turn ⟨envOf [false, false] 2 ds, os⟩) := call_eq (d := di_is_turn.d) rfl h
theorem cl_is_window {k : Nat} {os : Os} {ds : List D} (h : ds.length = 2) : call T (k + 1) ix_is_window ds os = outF (execB (T.cf k) ir_is_window ⟨envOf [false, false] 2 ds, os⟩) := call_eq (d := di_is_window.d) rfl h
theorem cl_is_telling {k : Nat} {os : Os} {ds : List D} (h : ds.length = 1) : call T (k + 1) ix_is_telling ds os = outF (execB (T.cf k) ir_is_telling ⟨envOf [false] 1 ds, os⟩) := call_eq (d := di_is_telling.d) rfl h
theorem cl_is_step {k : Nat} {os : Os} {ds : List D} (h : ds.length = 1) : call T (k + 1) ix_is_step ds os = outF (execB (T.cf k) ir_is_step ⟨envOf [false] 1 ds, os⟩) := call_eq (d := di_is_step.d) rfl h
theorem cl_name_of {k : Nat} {os : Os} {ds : List D} (h : ds.length = 1) : call T (k + 1) ix_name_of ds os = outF (execB (T.cf k) ir_name_of ⟨envOf [false] 1 ds, os⟩) := call_eq (d := di_name_of.d) rfl h
theorem cl_feeders {k : Nat} {os : Os} {ds : List D} (h : ds.length = 1) : call T (k + 1) ix_feeders ds os = outF (execB (T.cf k) ir_feeders ⟨envOf [false] 1 ds, os⟩) := call_eq (d := di_feeders.d) rfl h
theorem cl_is_teller {k : Nat} {os : Os} {ds : List D} (h : ds.length = 1) : call T (k + 1) ix_is_teller ds os = outF (execB (T.cf k) ir_is_teller ⟨envOf [false] 1 ds, os⟩) := call_eq (d := di_is_teller.d) rfl h
theorem cl_width {k : Nat} {os : Os} {ds : List D} (h : ds.length = 2) : call T (k + 1) ix_width ds os = outF (execB (T.cf k) ir_width ⟨envOf [false, true] 3 ds, os⟩) := call_eq (d := di_width.d) rfl h
theorem cl_is_fed {k : Nat} {os : Os} {ds : List D} (h : ds.length = 2) : call T (k + 1) ix_is_fed ds os = outF (execB (T.cf k) ir_is_fed ⟨envOf [false, true] 3 ds, os⟩) := call_eq (d := di_is_fed.d) rfl h
theorem cl_checked {k : Nat} {os : Os} {ds : List D} (h : ds.length = 1) : call T (k + 1) ix_checked ds os = outF (execB (T.cf k) ir_checked ⟨envOf [false] 5 ds, os⟩) := call_eq (d := di_checked.d) rfl h
theorem cl_law_at {k : Nat} {os : Os} {ds : List D} (h : ds.length = 2) : call T (k + 1) ix_law_at ds os = outF (execB (T.cf k) ir_law_at ⟨envOf [false, false] 2 ds, os⟩) := call_eq (d := di_law_at.d) rfl h
theorem cl_law_whole {k : Nat} {os : Os} {ds : List D} (h : ds.length = 1) : call T (k + 1) ix_law_whole ds os = outF (execB (T.cf k) ir_law_whole ⟨envOf [false] 1 ds, os⟩) := call_eq (d := di_law_whole.d) rfl h
theorem cl_law_is_name {k : Nat} {os : Os} {ds : List D} (h : ds.length = 1) : call T (k + 1) ix_law_is_name ds os = outF (execB (T.cf k) ir_law_is_name ⟨envOf [false] 2 ds, os⟩) := call_eq (d := di_law_is_name.d) rfl h
theorem cl_law_is_among {k : Nat} {os : Os} {ds : List D} (h : ds.length = 3) : call T (k + 1) ix_law_is_among ds os = outF (execB (T.cf k) ir_law_is_among ⟨envOf [false, false, false] 3 ds, os⟩) := call_eq (d := di_law_is_among.d) rfl h
theorem cl_law_called {k : Nat} {os : Os} {ds : List D} (h : ds.length = 3) : call T (k + 1) ix_law_called ds os = outF (execB (T.cf k) ir_law_called ⟨envOf [false, false, false] 9 ds, os⟩) := call_eq (d := di_law_called.d) rfl h
theorem cl_law_is_step {k : Nat} {os : Os} {ds : List D} (h : ds.length = 1) : call T (k + 1) ix_law_is_step ds os = outF (execB (T.cf k) ir_law_is_step ⟨envOf [false] 2 ds, os⟩) := call_eq (d := di_law_is_step.d) rfl h
theorem cl_law_number {k : Nat} {os : Os} {ds : List D} (h : ds.length = 2) : call T (k + 1) ix_law_number ds os = outF (execB (T.cf k) ir_law_number ⟨envOf [false, false] 2 ds, os⟩) := call_eq (d := di_law_number.d) rfl h
theorem cl_law_step {k : Nat} {os : Os} {ds : List D} (h : ds.length = 4) : call T (k + 1) ix_law_step ds os = outF (execB (T.cf k) ir_law_step ⟨envOf [false, false, false, false] 12 ds, os⟩) := call_eq (d := di_law_step.d) rfl h
theorem cl_law_wide {k : Nat} {os : Os} {ds : List D} (h : ds.length = 2) : call T (k + 1) ix_law_wide ds os = outF (execB (T.cf k) ir_law_wide ⟨envOf [false, true] 2 ds, os⟩) := call_eq (d := di_law_wide.d) rfl h
theorem cl_law_step_name {k : Nat} {os : Os} {ds : List D} (h : ds.length = 3) : call T (k + 1) ix_law_step_name ds os = outF (execB (T.cf k) ir_law_step_name ⟨envOf [false, false, false] 4 ds, os⟩) := call_eq (d := di_law_step_name.d) rfl h
theorem cl_law_plan {k : Nat} {os : Os} {ds : List D} (h : ds.length = 3) : call T (k + 1) ix_law_plan ds os = outF (execB (T.cf k) ir_law_plan ⟨envOf [false, false, false] 12 ds, os⟩) := call_eq (d := di_law_plan.d) rfl h
theorem cl_law_bad {k : Nat} {os : Os} {ds : List D} (h : ds.length = 1) : call T (k + 1) ix_law_bad ds os = outF (execB (T.cf k) ir_law_bad ⟨envOf [false] 7 ds, os⟩) := call_eq (d := di_law_bad.d) rfl h
theorem cl_law_spoilt {k : Nat} {os : Os} {ds : List D} (h : ds.length = 3) : call T (k + 1) ix_law_spoilt ds os = outF (execB (T.cf k) ir_law_spoilt ⟨envOf [false, false, false] 14 ds, os⟩) := call_eq (d := di_law_spoilt.d) rfl h
theorem cl_law_said {k : Nat} {os : Os} {ds : List D} (h : ds.length = 1) : call T (k + 1) ix_law_said ds os = outF (execB (T.cf k) ir_law_said ⟨envOf [false] 3 ds, os⟩) := call_eq (d := di_law_said.d) rfl h
theorem cl_law {k : Nat} {os : Os} {ds : List D} (h : ds.length = 1) : call T (k + 1) ix_law ds os = outF (execB (T.cf k) ir_law ⟨envOf [false] 11 ds, os⟩) := call_eq (d := di_law.d) rfl h
end Vi

namespace Vi
open PySem L2
noncomputable section
open Classical
theorem let_len : S_abcdefghijklmnopqrstuvwx_c3fc.length = 26 := by decide +kernel
/-- the things that may be asked -/
inductive Th : D → Prop
  | int (i : Int) : Th (.int i)
  | str (s : Str) (h : s.length ≤ 1000) : Th (.str s)
  | non : Th .non
  | bl (b : Bool) : Th (.bl b)
  | tup (l : List D) (h : l.length < 4) : Th (.tup l)
  | lst (l : List D) : Th (.lst l)
  | dct (l : List (D × D)) : Th (.dct l)
def isW : D → Bool
  | .int _ => true
  | _ => false
def amongB (a b : Int) : D → Bool
  | .int i => decide (a ≤ i) && decide (i ≤ b)
  | _ => false
def badS : D → Bool
  | .str c => !hasS S_abcdefghijklmnopqrstuvwx_c3fc c
  | _ => false
def nameB : D → Bool
  | .str s => decide (1 ≤ s.length) && decide (s.length ≤ 12) && !(signs s).any badS
  | _ => false
theorem isi_dct {l : List (D × D)} {ts : List Ty} {z : Z} : isiZ ts z (.dct l) = .ok (.bl (ts.any fun t => isD t (.dct l)), false) z := rfl
theorem call_whole {k : Nat} {d : D} {os : Os} (h : Th d) : call T (k + 1) ix_is_whole [d] os = .ok (.bl (isW d), false) os := by
  cases h <;> simp [cl_is_whole, ir_is_whole, isW, isD, isi_dct]
theorem call_among {k : Nat} {d : D} {a b : Int} {os : Os} (h : Th d) : call T (k + 2) ix_is_among [d, .int a, .int b] os = .ok (.bl (amongB a b d), false) os := by
  have w := call_whole (k := k) (os := os) h
  cases h with
  | int i =>
    by_cases h1 : a ≤ i <;> simp [cl_is_among, ir_is_among, isW, amongB, h1] at w ⊢ <;> simp [w, h1]
  | _ => simp [cl_is_among, ir_is_among, isW, amongB] at w ⊢ <;> simp [w]
theorem call_lamong {k : Nat} {d : D} {a b : Int} {os : Os} (h : Th d) : call T (k + 1) ix_law_is_among [d, .int a, .int b] os = .ok (.bl (amongB a b d), false) os := by
  cases h with
  | int i =>
    by_cases h1 : a ≤ i <;> simp [cl_law_is_among, ir_law_is_among, isW, amongB, h1, isD]
  | _ => simp [cl_law_is_among, ir_law_is_among, isW, amongB, isD, isi_dct]
theorem call_amount {k : Nat} {d : D} {os : Os} (h : Th d) : call T (k + 3) ix_is_amount [d] os = .ok (.bl (amongB (-1000000000) 1000000000 d), false) os := by
  have w := call_among (k := k) (a := -1000000000) (b := 1000000000) (os := os) h
  cases h <;> simp [cl_is_amount, ir_is_amount] at w ⊢ <;> simp [w]
theorem sign_loop {k : Nat} {s : Str} {os : Os} : ∃ env2, forL (.nm 1) (execB (T.cf k) ir_is_name_b1) [] (signs s) ⟨[.val (.str s) false, .no], os⟩ = .ok (if (signs s).any badS = true then .ret (.bl false) false else .next) ⟨env2, os⟩ ∧ ((signs s).any badS = false → ∃ e, env2 = [.val (.str s) false, e]) := by
  refine forL_search (P := fun env => ∃ e, env = [.val (.str s) false, e]) _ _ ⟨.no, rfl⟩ ?_ ?_
  · rintro x hx hb env ⟨e, rfl⟩
    obtain ⟨c, _, rfl⟩ := List.mem_map.mp hx
    have hb' : hasS S_abcdefghijklmnopqrstuvwx_c3fc ⟨#[c]⟩ = true := by
      have : (!hasS S_abcdefghijklmnopqrstuvwx_c3fc ⟨#[c]⟩) = false := hb
      simpa using this
    refine ⟨_, .next, [.val (.str s) false, .val (.str ⟨#[c]⟩) false], by rw [setT_n], ?_, by simp, _, rfl⟩
    simp [ir_is_name_b1, hb']
  · rintro x hx hb env ⟨e, rfl⟩
    obtain ⟨c, _, rfl⟩ := List.mem_map.mp hx
    have hb' : hasS S_abcdefghijklmnopqrstuvwx_c3fc ⟨#[c]⟩ = false := by
      have : (!hasS S_abcdefghijklmnopqrstuvwx_c3fc ⟨#[c]⟩) = true := hb
      simpa using this
    exact ⟨_, _, by rw [setT_n], by simp [ir_is_name_b1, hb']; rfl⟩
theorem call_name {k : Nat} {d : D} {os : Os} (h : Th d) : call T (k + 1) ix_is_name [d] os = .ok (.bl (nameB d), false) os := by
  cases h with
  | str s hs =>
    have hl : s.length ≤ 16777216 := by omega
    obtain ⟨env2, e1, e2⟩ := sign_loop (k := k) (s := s) (os := os)
    by_cases h1 : 1 ≤ s.length
    · by_cases h2 : s.length ≤ 12
      · cases hb : (signs s).any badS with
        | true =>
          rw [hb] at e1
          simp only [if_true] at e1
          have hi1 : (1 : Int) ≤ s.length := by omega
          have hi2 : (s.length : Int) ≤ 12 := by omega
          simp [cl_is_name, ir_is_name, nameB, hl, h1, h2, hi1, hi2, e1, hb, isD]
        | false =>
          obtain ⟨e, rfl⟩ := e2 hb
          rw [hb] at e1
          simp only [Bool.false_eq_true, if_false] at e1
          have hi1 : (1 : Int) ≤ s.length := by omega
          have hi2 : (s.length : Int) ≤ 12 := by omega
          simp [cl_is_name, ir_is_name, nameB, hl, h1, h2, hi1, hi2, e1, hb, isD]
      · have hi1 : (1 : Int) ≤ s.length := by omega
        have hi2 : ¬ (s.length : Int) ≤ 12 := by omega
        simp [cl_is_name, ir_is_name, nameB, hl, h1, h2, hi1, hi2, isD]
    · have hi1 : ¬ (1 : Int) ≤ s.length := by omega
      simp [cl_is_name, ir_is_name, nameB, hl, h1, hi1, isD]
  | _ => simp [cl_is_name, ir_is_name, nameB, isD, isi_dct]
theorem any_filter {α : Type} (p : α → Bool) (l : List α) : (l.filter p).isEmpty = !l.any p := by
  induction l with
  | nil => rfl
  | cons a l ih => cases h : p a <;> simp [h, ih]
theorem comp_name {k : Nat} {s : Str} {os : Os} (hs : s.length ≤ 1000) : compK (.nm 1) .val (evalE (T.cf k) ir_law_is_name_c2) (evalE (T.cf k) ir_law_is_name_e1) [.str s] ⟨[.val (.str s) false, .no], os⟩ = .ok (.lst (((signs s).filter badS).map id), true) ⟨[.val (.str s) false, .no], os⟩ := by
  rw [compK_if (xs := signs s) (t := badS) (f := id) rfl rfl (by rw [signs_len]; omega) (by simp)]
  · simp
  · intro x hx
    obtain ⟨c, _, rfl⟩ := List.mem_map.mp hx
    refine ⟨false, ?_⟩
    simp [ir_law_is_name_c2, badS]
  · intro x hx _
    obtain ⟨c, _, rfl⟩ := List.mem_map.mp hx
    refine ⟨false, ?_⟩
    simp [ir_law_is_name_e1]
theorem signs_strs (s : Str) (p : D → Bool) : ∃ l : List Str, ((signs s).filter p).map id = l.map D.str ∧ l.isEmpty = !(signs s).any p := by
  refine ⟨(s.cps.toList.filter fun c => p (.str ⟨#[c]⟩)).map fun c => ⟨#[c]⟩, ?_, ?_⟩
  · simp [signs, List.filter_map, Function.comp_def]
  · rw [← any_filter]
    simp [signs, List.filter_map, Function.comp_def]
theorem call_lname {k : Nat} {d : D} {os : Os} (h : Th d) : call T (k + 1) ix_law_is_name [d] os = .ok (.bl (nameB d), false) os := by
  cases h with
  | str s hs =>
    have hl : s.length ≤ 16777216 := by omega
    have hc := comp_name (k := k) (os := os) hs
    obtain ⟨l, l1, l2⟩ := signs_strs s badS
    rw [l1] at hc
    by_cases h1 : 1 ≤ s.length
    · by_cases h2 : s.length ≤ 12
      · have hi1 : (1 : Int) ≤ s.length := by omega
        have hi2 : (s.length : Int) ≤ 12 := by omega
        have q := q_eqsn (os := os) (l := l)
        rw [l2] at q
        generalize l.map D.str = LL at *
        simp [cl_law_is_name, ir_law_is_name, nameB, hl, h1, h2, hi1, hi2, hc, q, isD]
      · have hi1 : (1 : Int) ≤ s.length := by omega
        have hi2 : ¬ (s.length : Int) ≤ 12 := by omega
        simp [cl_law_is_name, ir_law_is_name, nameB, hl, h1, h2, hi1, hi2, isD]
    · have hi1 : ¬ (1 : Int) ≤ s.length := by omega
      simp [cl_law_is_name, ir_law_is_name, nameB, hl, h1, hi1, isD]
  | _ => simp [cl_law_is_name, ir_law_is_name, nameB, isD, isi_dct]
theorem one_len (c : Nat) : (⟨#[c]⟩ : Str).length = 1 := rfl
theorem sum_ones : ∀ l : List Str, (∀ t ∈ l, t.length = 1) → (l.map (·.length)).sum = l.length
  | [], _ => rfl
  | t :: l, h => by
    rw [List.map_cons, List.sum_cons, sum_ones l fun u hu => h u (List.mem_cons_of_mem _ hu), h t (by simp), List.length_cons]; omega
end
end Vi

namespace Vi
open PySem L2
noncomputable section
open Classical
/-! letters -/
theorem abc_cps : S_abcdefghijklmnopqrstuvwx_c3fc.cps.toList = [97, 98, 99, 100, 101, 102, 103, 104, 105, 106, 107, 108, 109, 110, 111, 112, 113, 114, 115, 116, 117, 118, 119, 120, 121, 122] := by decide +kernel
theorem has_let (c : Nat) : hasS S_abcdefghijklmnopqrstuvwx_c3fc ⟨#[c]⟩ = (decide (97 ≤ c) && decide (c ≤ 122)) := by
  have h : hasS S_abcdefghijklmnopqrstuvwx_c3fc ⟨#[c]⟩ = decide (c ∈ S_abcdefghijklmnopqrstuvwx_c3fc.cps.toList) := StrLaws.found_one S_abcdefghijklmnopqrstuvwx_c3fc c
  rw [h, abc_cps]
  by_cases h1 : 97 ≤ c <;> by_cases h2 : c ≤ 122 <;> simp [h1, h2] <;> omega
def Lets (s : Str) : Prop := ∀ c ∈ s.cps.toList, 97 ≤ c ∧ c ≤ 122
theorem lets_name {s : Str} (h : Lets s) (h1 : 1 ≤ s.length) (h2 : s.length ≤ 12) : nameB (.str s) = true := by
  have : (signs s).any badS = false := by
    rw [List.any_eq_false]
    intro x hx
    obtain ⟨c, hc, rfl⟩ := List.mem_map.mp hx
    have := h c hc
    simp [badS, has_let, this]
  simp [nameB, h1, h2, this]
theorem name_lets {s : Str} (h : nameB (.str s) = true) : Lets s ∧ 1 ≤ s.length ∧ s.length ≤ 12 := by
  simp only [nameB, Bool.and_eq_true, decide_eq_true_eq, Bool.not_eq_true'] at h
  refine ⟨fun c hc => ?_, h.1.1, h.1.2⟩
  have := List.any_eq_false.mp h.2 (.str ⟨#[c]⟩) (List.mem_map.mpr ⟨c, hc, rfl⟩)
  simpa [badS, has_let] using this
theorem lets_app {s t : Str} (h : Lets s) (h' : Lets t) : Lets (s ++ t) := fun c hc => by
  have hc : c ∈ TL.tl (s ++ t) := hc
  rw [TL.tl_append] at hc
  rcases List.mem_append.mp hc with q | q
  · exact h c q
  · exact h' c q
theorem cut_mem {s : Str} {lo hi : Option Int} {c : Nat} (h : c ∈ (cutS s lo hi).cps.toList) : c ∈ s.cps.toList := by
  have e : (cutS s lo hi).cps.toList = cutD s.cps.toList lo hi := rfl
  rw [e] at h
  unfold cutD at h
  exact List.mem_of_mem_drop (List.mem_of_mem_take h)
theorem lets_cut {s : Str} {lo hi : Option Int} (h : Lets s) : Lets (cutS s lo hi) := fun c hc => h c (cut_mem hc)
theorem mod4 (x : Int) : x % 4 = 0 ∨ x % 4 = 1 ∨ x % 4 = 2 ∨ x % 4 = 3 := by omega
theorem mod2 (x : Int) : x % 2 = 0 ∨ x % 2 = 1 := by omega
theorem mod8 (x : Int) : x % 8 = 0 ∨ x % 8 = 1 ∨ x % 8 = 2 ∨ x % 8 = 3 ∨ x % 8 = 4 ∨ x % 8 = 5 ∨ x % 8 = 6 ∨ x % 8 = 7 := by omega
end
end Vi

namespace Vi
open PySem L2
noncomputable section
open Classical
/-! names that are drawn -/
def letC (j : Int) : Nat := 97 + j.toNat
theorem let_ix' {os : Os} {j : Int} (h0 : 0 ≤ j) (h1 : j < 26) : ixD os (.str S_abcdefghijklmnopqrstuvwx_c3fc) (.int j) = some (.str ⟨#[letC j]⟩) := by
  obtain ⟨i, rfl⟩ : ∃ i : Nat, j = i := ⟨j.toNat, by omega⟩
  have hi : i < 26 := by omega
  simp only [ixD]
  rw [if_pos (show S_abcdefghijklmnopqrstuvwx_c3fc.length ≤ sizeLine from by rw [let_len]; decide), abc_cps, atI_nat (by simpa using hi)]
  have : ∀ j : Nat, (h : j < 26) → ([97, 98, 99, 100, 101, 102, 103, 104, 105, 106, 107, 108, 109, 110, 111, 112, 113, 114, 115, 116, 117, 118, 119, 120, 121, 122] : List Nat)[j]'(by simpa using h) = 97 + j := by decide
  rw [this i hi]; rfl
theorem letC_in {j : Int} (h0 : 0 ≤ j) (h1 : j < 26) : 97 ≤ letC j ∧ letC j ≤ 122 := by unfold letC; omega
def calT (c kk : Int) : Int := c + 31 * kk * (c % 2)
def calN (c kk : Int) (l : Nat) : Int := calT c kk / 26 % (13 - (l : Int))
def calM (c kk : Int) (l : Nat) : Int := if c % 2 = 0 then c / 4 % (calN c kk l + 1) else calN c kk l
def calL (c kk : Int) (l : Nat) : List Nat := (List.range (calN c kk l).toNat).map fun i : Nat => letC ((calT c kk + 5 * (i : Int) * (1 + calT c kk % 3)) % 26)
def calledS (c kk : Int) (sg : Str) : Str := ⟨((calL c kk sg.length).take (calM c kk sg.length).toNat ++ sg.cps.toList ++ (calL c kk sg.length).drop (calM c kk sg.length).toNat).toArray⟩
theorem calN_in {c kk : Int} {l : Nat} (h : l < 13) : 0 ≤ calN c kk l ∧ calN c kk l < 13 - (l : Int) := by
  unfold calN
  exact ⟨Int.emod_nonneg _ (by omega), Int.emod_lt_of_pos _ (by omega)⟩
theorem calM_in {c kk : Int} {l : Nat} (h : l < 13) : 0 ≤ calM c kk l ∧ calM c kk l ≤ calN c kk l := by
  obtain ⟨a, b⟩ := calN_in (c := c) (kk := kk) h
  unfold calM
  have p := Int.emod_nonneg (c / 4) (show calN c kk l + 1 ≠ 0 by omega)
  have q := Int.emod_lt_of_pos (c / 4) (show 0 < calN c kk l + 1 by omega)
  split <;> omega
theorem calL_len {c kk : Int} {l : Nat} (h : l < 13) : (calL c kk l).length = (calN c kk l).toNat := by simp [calL]
theorem calL_let {c kk : Int} {l : Nat} : ∀ x ∈ calL c kk l, 97 ≤ x ∧ x ≤ 122 := fun x hx => by
  obtain ⟨i, _, rfl⟩ := List.mem_map.mp hx
  exact letC_in (Int.emod_nonneg _ (by omega)) (Int.emod_lt_of_pos _ (by omega))
theorem len_cps (s : Str) : s.length = s.cps.toList.length := by simp [Str.length]
theorem called_lets {c kk : Int} {sg : Str} (hs : Lets sg) : Lets (calledS c kk sg) := fun x hx => by
  have hx : x ∈ (calL c kk sg.length).take (calM c kk sg.length).toNat ++ sg.cps.toList ++ (calL c kk sg.length).drop (calM c kk sg.length).toNat := hx
  rcases List.mem_append.mp hx with q | q
  · rcases List.mem_append.mp q with q | q
    · exact calL_let x (List.mem_of_mem_take q)
    · exact hs x q
  · exact calL_let x (List.mem_of_mem_drop q)
theorem called_len {c kk : Int} {sg : Str} (h : sg.length < 13) : (calledS c kk sg).length = (calN c kk sg.length).toNat + sg.length := by
  have e : (calledS c kk sg).length = ((calL c kk sg.length).take (calM c kk sg.length).toNat ++ sg.cps.toList ++ (calL c kk sg.length).drop (calM c kk sg.length).toNat).length := by simp [calledS, Str.length]
  have l := calL_len (c := c) (kk := kk) h
  have := calM_in (c := c) (kk := kk) h
  rw [e, List.length_append, List.length_append, List.length_take, List.length_drop, ← len_cps, l]
  omega
theorem called_name {c kk : Int} {sg : Str} (hs : Lets sg) (h0 : 1 ≤ sg.length) (h : sg.length < 13) : nameB (.str (calledS c kk sg)) = true := by
  have l := called_len (c := c) (kk := kk) h
  have := calN_in (c := c) (kk := kk) h
  exact lets_name (called_lets hs) (by omega) (by omega)
theorem called_inj {c k1 k2 : Int} {s1 s2 : Str} (hl : s1.length = s2.length) (h : s1.length < 13) (e : calledS c k1 s1 = calledS c k2 s2) : s1 = s2 := by
  have e' := congrArg (fun s : Str => s.cps.toList) e
  simp only [calledS] at e'
  have q : s1.cps.toList = s2.cps.toList := by
    by_cases q : c % 2 = 0
    · have t : ∀ k, calT c k = c := fun k => by unfold calT; rw [q]; omega
      have n : calN c k1 s1.length = calN c k2 s2.length := by unfold calN; rw [t, t, hl]
      have m : calM c k1 s1.length = calM c k2 s2.length := by unfold calM; rw [n]
      have l : calL c k1 s1.length = calL c k2 s2.length := by unfold calL; rw [n, t, t]
      rw [m, l] at e'
      have e2 := List.append_inj_left' e' rfl
      exact List.append_cancel_left e2
    · have m : ∀ k s, calM c k s = calN c k s := fun k s => by unfold calM; rw [if_neg q]
      have d : ∀ (k : Int) (s : Str), s.length < 13 → (calL c k s.length).drop (calM c k s.length).toNat = [] := fun k s h => by
        rw [m]; exact List.drop_eq_nil_of_le (by rw [calL_len h]; exact Nat.le_refl _)
      rw [d k1 s1 h, d k2 s2 (by omega), List.append_nil, List.append_nil] at e'
      exact List.append_inj_right' e' (by rw [← len_cps, ← len_cps, hl])
  cases s1; cases s2
  simp only [Str.mk.injEq]
  exact Array.toList_inj.mp q
abbrev calE (c kk : Int) (sg : Str) (t z : Int) (e6 e7 e8 : Ent) : List Ent := [.val (.int c) false, .val (.int kk) false, .val (.str sg) false, .val (.str S_abcdefghijklmnopqrstuvwx_c3fc) false, .val (.int t) false, .val (.int z) false, e6, e7, e8]
def oneS (l : List Nat) : List Str := l.map fun c => ⟨#[c]⟩
theorem comp_called {k : Nat} {c kk : Int} {sg : Str} {os : Os} (h : sg.length < 13) :
    compK (.nm 7) .range yesZ (evalE (T.cf k) ir_law_called_e1) [.int (calN c kk sg.length)] ⟨calE c kk sg (calT c kk) (calN c kk sg.length) .no .no .no, os⟩ = .ok (.lst ((oneS (calL c kk sg.length)).map D.str), true) ⟨calE c kk sg (calT c kk) (calN c kk sg.length) .no .no .no, os⟩ := by
  obtain ⟨a, b⟩ := calN_in (c := c) (kk := kk) h
  have lL : oneS (calL c kk sg.length) = (List.range (calN c kk sg.length).toNat).map fun i : Nat => ⟨#[letC ((calT c kk + 5 * (i : Int) * (1 + calT c kk % 3)) % 26)]⟩ := by unfold oneS calL; rw [List.map_map]; rfl
  rw [lL]
  generalize calN c kk sg.length = n at *
  generalize calT c kk = t at *
  rw [compK_nm (xs := (List.range n.toNat).map fun i : Nat => D.int i) (f := fun d => match d with | .int i => .str ⟨#[letC ((t + 5 * i * (1 + t % 3)) % 26)]⟩ | d => d) (src_range1 (by omega) (by omega)) rfl (by simp; omega) (by simp)]
  · simp [Function.comp_def]
  · intro y hy
    obtain ⟨i, hi, rfl⟩ := List.mem_map.mp hy
    have hi := List.mem_range.mp hi
    have m1 : mulOk 5 i = true := mulOk_s (by omega) (by omega) (by omega) (by omega)
    have m2 : mulOk (5 * (i : Int)) (1 + t % 3) = true := mulOk_s (by omega) (by omega) (by omega) (by omega)
    have e := let_ix' (os := os) (j := (t + 5 * (i : Int) * (1 + t % 3)) % 26) (Int.emod_nonneg _ (by omega)) (Int.emod_lt_of_pos _ (by omega))
    refine ⟨false, ?_⟩
    simp [ir_law_called_e1, m1, m2, e]
theorem join_one (l : List Nat) : (Txt.join S__d41d (oneS l)).cps.toList = l := by
  have e0 : S__d41d.cps.toList = [] := by decide +kernel
  rw [TL.join_eq]
  induction l with
  | nil => rfl
  | cons a l ih =>
    cases l with
    | nil => simp [oneS, Str.join]
    | cons b r =>
      have q : TL.tl ((⟨#[a]⟩ : Str) ++ S__d41d ++ Str.join S__d41d (oneS (b :: r))) = [a] ++ S__d41d.cps.toList ++ (Str.join S__d41d (oneS (b :: r))).cps.toList := by
        rw [TL.tl_append, TL.tl_append]
      have q2 : (Str.join S__d41d (oneS (a :: b :: r))).cps.toList = TL.tl ((⟨#[a]⟩ : Str) ++ S__d41d ++ Str.join S__d41d (oneS (b :: r))) := rfl
      rw [q2, q, ih, e0]; rfl
theorem cuts_str {w : Str} {m : Int} (h0 : 0 ≤ m) (h1 : m ≤ w.cps.toList.length) : (cutS w none (some m)) = ⟨(w.cps.toList.take m.toNat).toArray⟩ ∧ (cutS w (some m) none) = ⟨(w.cps.toList.drop m.toNat).toArray⟩ := by
  obtain ⟨i, rfl⟩ : ∃ i : Nat, m = i := ⟨m.toNat, by omega⟩
  have hi : i ≤ w.cps.toList.length := by omega
  unfold cutS
  rw [cut_to hi, cut_from hi]
  exact ⟨rfl, rfl⟩
theorem app_mk (a b : List Nat) : ((⟨a.toArray⟩ : Str) ++ (⟨b.toArray⟩ : Str)) = ⟨(a ++ b).toArray⟩ := by
  show (⟨a.toArray ++ b.toArray⟩ : Str) = _
  simp
theorem call_called {k : Nat} {c kk : Int} {sg : Str} {os : Os} (hk : 0 ≤ kk ∧ kk ≤ 100000) (h0 : 1 ≤ sg.length) (h : sg.length < 13) : call T (k + 1) ix_law_called [.int c, .int kk, .str sg] os = .ok (.str (calledS c kk sg), false) os := by
  have cc := comp_called (k := k) (c := c) (kk := kk) (sg := sg) (os := os) h
  obtain ⟨a, b⟩ := calN_in (c := c) (kk := kk) h
  obtain ⟨q0, q1⟩ := calM_in (c := c) (kk := kk) h
  have lL := calL_len (c := c) (kk := kk) h
  have jo := join_one (calL c kk sg.length)
  have l1 : ∀ t ∈ oneS (calL c kk sg.length), t.length = 1 := fun t ht => by
    obtain ⟨i, _, rfl⟩ := List.mem_map.mp ht
    rfl
  have hz : JoinSz S__d41d (oneS (calL c kk sg.length)) := by
    unfold JoinSz
    rw [sum_ones _ l1, show S__d41d.length = 0 by decide +kernel]
    have : (oneS (calL c kk sg.length)).length = (calL c kk sg.length).length := by simp [oneS]
    omega
  have mj := meth_join (os := os) hz
  have hT : calT c kk = c + 31 * kk * (c % 2) := rfl
  have hN : calN c kk sg.length = calT c kk / 26 % (13 - (sg.length : Int)) := rfl
  have hM : calM c kk sg.length = if c % 2 = 0 then c / 4 % (calN c kk sg.length + 1) else calN c kk sg.length := rfl
  have hS : calledS c kk sg = ⟨((calL c kk sg.length).take (calM c kk sg.length).toNat ++ sg.cps.toList ++ (calL c kk sg.length).drop (calM c kk sg.length).toNat).toArray⟩ := rfl
  generalize calL c kk sg.length = L at *
  generalize calM c kk sg.length = m at *
  generalize hgN : calN c kk sg.length = n at *
  generalize calT c kk = t at *
  generalize calledS c kk sg = RES at *
  clear hgN
  obtain ⟨w, hw⟩ : ∃ w, w = Txt.join S__d41d (oneS L) := ⟨_, rfl⟩
  rw [← hw] at mj jo
  have wn : w.length = n.toNat := by rw [len_cps, jo, lL]
  have fl := f_lens (os := os) (s := sg) (by omega)
  have m1 : mulOk 31 kk = true := mulOk_s (by omega) (by omega) (by omega) (by omega)
  have m2 : mulOk (31 * kk) (c % 2) = true := mulOk_s (by omega) (by omega) (by omega) (by omega)
  obtain ⟨cu1, cu2⟩ := cuts_str (w := w) (m := m) q0 (by rw [← len_cps]; omega)
  rw [jo] at cu1 cu2
  have y1 := y_sls (os := os) (s := w) (lo := none) (hi := some m) (by omega)
  have y2 := y_sls (os := os) (s := w) (lo := some m) (hi := none) (by omega)
  have z1 := cutS_len w none (some m)
  have z2 := cutS_len w (some m) none
  have a1 : binD .add os (.str (cutS w none (some m))) (.str sg) = _ := n_adds (by omega)
  have a2 : binD .add os (.str (cutS w none (some m) ++ sg)) (.str (cutS w (some m) none)) = _ := n_adds (by rw [len_app]; omega)
  have fin : cutS w none (some m) ++ sg ++ cutS w (some m) none = RES := by
    rw [hS, cu1, cu2]
    have : sg = ⟨sg.cps.toList.toArray⟩ := by cases sg; simp
    rw [this, app_mk, app_mk]
  rw [fin] at a2
  have bn : ∀ os, binD .mod os (.int (t / 26)) (.int (13 - (sg.length : Int))) = some (.int n, false) := fun os => by rw [hN]; exact bin_mod (by omega)
  have bm : ∀ os, binD .mod os (.int (c / 4)) (.int (n + 1)) = some (.int (c / 4 % (n + 1)), false) := fun os => bin_mod (by omega)
  rw [cl_law_called rfl]
  unfold calE at cc
  clear hw jo l1 hz hS fin cu1 cu2 z1 z2 lL
  generalize (oneS L).map D.str = LL at *
  by_cases q : c % 2 = 0
  · rw [if_pos q] at hM
    have hT' : c = t := by rw [hT, q]; simp
    rw [q] at m2
    clear hT
    subst hT'
    simp [ir_law_called, m1, m2, fl, bn, cc, mj, bm, ← hM, y1, y2, a1, a2, q]
  · rw [if_neg q] at hM
    subst hM
    have q' : c % 2 = 1 := by omega
    rw [q'] at m2 hT
    simp at hT m2
    simp [ir_law_called, m1, m2, fl, ← hT, bn, cc, mj, y1, y2, a1, a2, q']
end
end Vi

namespace Vi
open PySem L2
noncomputable section
open Classical
/-! steps that are drawn -/
theorem call_lnum {k : Nat} {c m : Int} {os : Os} (h0 : 1 ≤ m) (h1 : m ≤ 100000000000) : ∃ v, 0 ≤ v ∧ v ≤ m ∧ call T (k + 1) ix_law_number [.int c, .int m] os = .ok (.int v, false) os := by
  have b1 : ∀ os, binD .mod os (.int (c / 4)) (.int (m + 1)) = some (.int (c / 4 % (m + 1)), false) := fun os => bin_mod (by omega)
  obtain ⟨w, hw, w0, w1⟩ : ∃ w, w = (if m + 1 < 13 then m + 1 else 13) ∧ 1 ≤ w ∧ w ≤ m + 1 := ⟨_, rfl, by split <;> omega, by split <;> omega⟩
  have b2 : ∀ os, binD .mod os (.int (c / 4)) (.int w) = some (.int (c / 4 % w), false) := fun os => bin_mod (by omega)
  have fm : ∀ os, fnD .min os [.int 13, .int (m + 1)] = some (.int w, false) := fun os => by rw [hw]; exact f_min
  rw [cl_law_number rfl]
  rcases mod4 c with h | h | h | h
  · have p := Int.emod_nonneg (c / 4) (show m + 1 ≠ 0 by omega)
    have q := Int.emod_lt_of_pos (c / 4) (show 0 < m + 1 by omega)
    exact ⟨c / 4 % (m + 1), by omega, by omega, by simp [ir_law_number, h, b1]⟩
  · exact ⟨m - c / 4 % 2, by omega, by omega, by simp [ir_law_number, h]⟩
  · have p := Int.emod_nonneg (c / 4) (show w ≠ 0 by omega)
    have q := Int.emod_lt_of_pos (c / 4) (show 0 < w by omega)
    exact ⟨c / 4 % w, by omega, by omega, by simp [ir_law_number, h, fm, b2]⟩
  · have p := Int.emod_nonneg (c / 4) (show w ≠ 0 by omega)
    have q := Int.emod_lt_of_pos (c / 4) (show 0 < w by omega)
    exact ⟨c / 4 % w, by omega, by omega, by simp [ir_law_number, h, fm, b2]⟩
inductive Pst where
  | take (n k : Str) | only (n a : Str) (lo hi : Int) | turn (n a : Str) (t m : Int) | both (n a b : Str) | join (n a b : Str) (w : Int)
  | each (n a y : Str) (z s : Int) | gap (n a y : Str) (m : Int)
def stD : Pst → D
  | .take n k => .tup [.str S_take, .str n, .str k]
  | .only n a lo hi => .tup [.str S_only, .str n, .str a, .int lo, .int hi]
  | .turn n a t m => .tup [.str S_turn, .str n, .str a, .int t, .int m]
  | .both n a b => .tup [.str S_both, .str n, .str a, .str b]
  | .join n a b w => .tup [.str S_join, .str n, .str a, .str b, .int w]
  | .each n a y z s => .tup [.str S_each, .str n, .str a, .str y, .int z, .int s]
  | .gap n a y m => .tup [.str S_gap, .str n, .str a, .str y, .int m]
def Pst.nm : Pst → Str
  | .take n _ | .only n .. | .turn n .. | .both n .. | .join n .. | .each n .. | .gap n .. => n
def Pst.fd : Pst → List Str
  | .take .. => []
  | .only _ a .. | .turn _ a .. | .each _ a .. | .gap _ a .. => [a]
  | .both _ a b | .join _ a b _ => [a, b]
def Pst.tel : Pst → Bool
  | .each .. | .gap .. => true
  | _ => false
abbrev Nam (s : Str) : Prop := nameB (.str s) = true
def TalS (y : Str) : Prop := y = S_count ∨ y = S_sum ∨ y = S_least ∨ y = S_greatest
def Pst.rng : Pst → Prop
  | .take _ k => Nam k
  | .only _ _ lo hi => -1000000000 ≤ lo ∧ lo ≤ hi ∧ hi ≤ 1000000000
  | .turn _ _ t m => -9 ≤ t ∧ t ≤ 9 ∧ -1000000000 ≤ m ∧ m ≤ 1000000000
  | .both .. => True
  | .join _ _ _ w => 0 ≤ w ∧ w ≤ 1000000
  | .each _ _ y z s => TalS y ∧ 1 ≤ s ∧ s ≤ z ∧ z ≤ 1000000 ∧ z ≤ 20 * s
  | .gap _ _ y m => TalS y ∧ 0 ≤ m ∧ m ≤ 1000000
theorem at_some {ss : List Str} (h : ss ≠ []) (x : Int) : ∃ a ∈ ss, atI (ss.map D.str) (x % (ss.length : Int)) = some (.str a) := by
  have hp : 0 < ss.length := List.length_pos_iff.mpr h
  have p := Int.emod_nonneg x (show (ss.length : Int) ≠ 0 by omega)
  have q := Int.emod_lt_of_pos x (show (0 : Int) < ss.length by omega)
  obtain ⟨i, hi⟩ : ∃ i : Nat, x % (ss.length : Int) = i := ⟨_, (Int.toNat_of_nonneg p).symm⟩
  have hlt : i < ss.length := by omega
  exact ⟨ss[i], List.getElem_mem hlt, by rw [hi, atI_nat (by simpa using hlt)]; simp⟩
theorem tal_at (M : Int) : ∃ y, TalS y ∧ atI [D.str S_count, .str S_sum, .str S_least, .str S_greatest] (M % 4) = some (.str y) := by
  rcases mod4 M with h | h | h | h <;> rw [h]
  · exact ⟨_, .inl rfl, at0⟩
  · exact ⟨_, .inr (.inl rfl), at1⟩
  · exact ⟨_, .inr (.inr (.inl rfl)), at2⟩
  · exact ⟨_, .inr (.inr (.inr rfl)), at3⟩
abbrev stpE (c : Int) (nm kd : Str) (SS : List D) (w : Int) (a b : Str) (M : Int) (y : Str) (e9 e10 e11 : Ent) : List Ent := [.val (.int c) false, .val (.str nm) false, .val (.lst SS) false, .val (.str kd) false, .val (.int w) false, .val (.str a) false, .val (.str b) false, .val (.int M) false, .val (.str y) false, e9, e10, e11]
section
variable {k : Nat} {c M : Int} {nm kd a b y : Str} {SS : List D} {os : Os}
theorem stp0 {w : Int} (h : w = 0 ∨ w = 1 ∨ SS = []) (hS : ∃ q, cmpD .eq os (.lst SS) (.lst []) = some q ∧ (SS = [] → q = true)) : ∃ z, execB (T.cf (k + 1)) (ir_law_step.drop 5) ⟨stpE c nm kd SS w a b M y .no .no .no, os⟩ = .ok (.ret (stD (.take nm kd)) false) ⟨z, os⟩ := by
  obtain ⟨q, hq, hq2⟩ := hS
  refine ⟨stpE c nm kd SS w a b M y .no .no .no, ?_⟩
  rcases h with rfl | rfl | h
  · simp [ir_law_step, stD]
  · simp [ir_law_step, stD]
  · have := hq2 h
    subst this
    by_cases r : w < 2 <;> simp [ir_law_step, stD, hq, r]
variable (hS : cmpD .eq os (.lst SS) (.lst []) = some false)
include hS
theorem stp2 : ∃ lo hi z, (-1000000000 ≤ lo ∧ lo ≤ hi ∧ hi ≤ 1000000000) ∧ execB (T.cf (k + 1)) (ir_law_step.drop 5) ⟨stpE c nm kd SS 2 a b M y .no .no .no, os⟩ = .ok (.ret (stD (.only nm a lo hi)) false) ⟨z, os⟩ := by
  obtain ⟨v1, p1, q1, n1⟩ := call_lnum (k := k) (c := M) (m := 1000000000) (os := os) (by omega) (by omega)
  obtain ⟨v2, p2, q2, n2⟩ := call_lnum (k := k) (c := M / 16) (m := 1000000) (os := os) (by omega) (by omega)
  obtain ⟨v3, p3, q3, n3⟩ := call_lnum (k := k) (c := M / 16) (m := 1000000000) (os := os) (by omega) (by omega)
  have m2 : mulOk 1000000000 (M / 8 % 2) = true := mulOk_s (by omega) (by omega) (by omega) (by omega)
  have fin : ∀ lo hi : Int, -1000000000 ≤ lo → lo ≤ 1000000000 → ∃ f x, -1000000000 ≤ lo ∧ lo ≤ x ∧ x ≤ 1000000000 ∧ fnD .min os [.int 1000000000, .int hi] = some (.int f, false) ∧ fnD .max os [.int lo, .int f] = some (.int x, false) := fun lo hi h1 h2 =>
    ⟨_, _, h1, by split <;> split <;> omega, by split <;> split <;> omega, f_min, f_max⟩
  obtain ⟨u, hu, u0, u1⟩ : ∃ u, u = M / 8 % 2 ∧ 0 ≤ u ∧ u ≤ 1 := ⟨_, rfl, by omega, by omega⟩
  obtain ⟨u2, hu2, u20, u21⟩ : ∃ u, u = M / 128 % 21 ∧ 0 ≤ u ∧ u ≤ 20 := ⟨_, rfl, by omega, by omega⟩
  obtain ⟨u3, hu3, u30, u31⟩ : ∃ u, u = M / 2688 % 21 ∧ 0 ≤ u ∧ u ≤ 20 := ⟨_, rfl, by omega, by omega⟩
  rw [← hu] at m2
  by_cases r2 : M / 64 % 2 = 1
  · obtain ⟨f, x, x1, x2, x3, fx1, fx2⟩ := fin (u2 - 10) (u2 - 10 + u3) (by omega) (by omega)
    refine ⟨u2 - 10, x, stpE c nm kd SS 2 a b M y (.val (.int (u2 - 10)) false) (.val (.int (u2 - 10 + u3)) false) .no, ⟨x1, x2, x3⟩, ?_⟩
    by_cases r1 : M / 32 % 2 = 1
    · simp [ir_law_step, stD, hS, n1, n2, n3, m2, ← hu, ← hu2, ← hu3, r1, r2, fx1, fx2, -f_min, -f_max]
    · simp [ir_law_step, stD, hS, n1, n2, n3, m2, ← hu, ← hu2, ← hu3, r1, r2, fx1, fx2, -f_min, -f_max]
  · by_cases r1 : M / 32 % 2 = 1
    · obtain ⟨f, x, x1, x2, x3, fx1, fx2⟩ := fin (v1 - 1000000000 * u) (1000000000 - v3) (by omega) (by omega)
      refine ⟨v1 - 1000000000 * u, x, stpE c nm kd SS 2 a b M y (.val (.int (v1 - 1000000000 * u)) false) (.val (.int (1000000000 - v3)) false) .no, ⟨x1, x2, x3⟩, ?_⟩
      simp [ir_law_step, stD, hS, n1, n2, n3, m2, ← hu, ← hu2, ← hu3, r1, r2, fx1, fx2, -f_min, -f_max]
    · obtain ⟨f, x, x1, x2, x3, fx1, fx2⟩ := fin (v1 - 1000000000 * u) (v1 - 1000000000 * u + v2) (by omega) (by omega)
      refine ⟨v1 - 1000000000 * u, x, stpE c nm kd SS 2 a b M y (.val (.int (v1 - 1000000000 * u)) false) (.val (.int (v1 - 1000000000 * u + v2)) false) .no, ⟨x1, x2, x3⟩, ?_⟩
      simp [ir_law_step, stD, hS, n1, n2, n3, m2, ← hu, ← hu2, ← hu3, r1, r2, fx1, fx2, -f_min, -f_max]
theorem stp3 : ∃ t m, (-9 ≤ t ∧ t ≤ 9 ∧ -1000000000 ≤ m ∧ m ≤ 1000000000) ∧ execB (T.cf (k + 1)) (ir_law_step.drop 5) ⟨stpE c nm kd SS 3 a b M y .no .no .no, os⟩ = .ok (.ret (stD (.turn nm a t m)) false) ⟨stpE c nm kd SS 3 a b M y .no .no .no, os⟩ := by
  obtain ⟨v1, p1, q1, n1⟩ := call_lnum (k := k) (c := M / 80) (m := 2000000000) (os := os) (by omega) (by omega)
  exact ⟨M / 4 % 19 - 9, v1 - 1000000000, ⟨by omega, by omega, by omega, by omega⟩, by simp [ir_law_step, stD, hS, n1]⟩
theorem stp4 : execB (T.cf (k + 1)) (ir_law_step.drop 5) ⟨stpE c nm kd SS 4 a b M y .no .no .no, os⟩ = .ok (.ret (stD (.both nm a b)) false) ⟨stpE c nm kd SS 4 a b M y .no .no .no, os⟩ := by
  simp [ir_law_step, stD, hS]
theorem stp5 : ∃ w, (0 ≤ w ∧ w ≤ 1000000) ∧ execB (T.cf (k + 1)) (ir_law_step.drop 5) ⟨stpE c nm kd SS 5 a b M y .no .no .no, os⟩ = .ok (.ret (stD (.join nm a b w)) false) ⟨stpE c nm kd SS 5 a b M y .no .no .no, os⟩ := by
  obtain ⟨v1, p1, q1, n1⟩ := call_lnum (k := k) (c := M) (m := 1000000) (os := os) (by omega) (by omega)
  exact ⟨v1, ⟨p1, q1⟩, by simp [ir_law_step, stD, hS, n1]⟩
theorem stp6 : ∃ z s, (1 ≤ s ∧ s ≤ z ∧ z ≤ 1000000 ∧ z ≤ 20 * s) ∧ execB (T.cf (k + 1)) (ir_law_step.drop 5) ⟨stpE c nm kd SS 6 a b M y .no .no .no, os⟩ = .ok (.ret (stD (.each nm a y z s)) false) ⟨stpE c nm kd SS 6 a b M y .no .no (.val (.int s) false), os⟩ := by
  obtain ⟨g, gx, g0, g1⟩ : ∃ g, atI [D.int 49999, .int 999999] (M / 256 % 2) = some (.int g) ∧ 1 ≤ g ∧ g ≤ 999999 := by
    rcases mod2 (M / 256) with r | r <;> rw [r]
    · exact ⟨_, at0, by omega, by omega⟩
    · exact ⟨_, at1, by omega, by omega⟩
  obtain ⟨v1, p1, q1, n1⟩ := call_lnum (k := k) (c := M / 4) (m := g) (os := os) (by omega) (by omega)
  obtain ⟨s, hs⟩ : ∃ s, s = 1 + v1 := ⟨_, rfl⟩
  obtain ⟨v2, p2, q2, n2⟩ := call_lnum (k := k) (c := M / 64) (m := 19 * s) (os := os) (by omega) (by omega)
  have m2 : mulOk 19 s = true := mulOk_s (by omega) (by omega) (by omega) (by omega)
  obtain ⟨w, fm, w0, w1, w2⟩ : ∃ w, fnD .min os [.int 1000000, .int (s + v2)] = some (.int w, false) ∧ s ≤ w ∧ w ≤ 1000000 ∧ w ≤ 20 * s := ⟨_, f_min, by split <;> omega, by split <;> omega, by split <;> omega⟩
  exact ⟨w, s, ⟨by omega, w0, w1, w2⟩, by simp [ir_law_step, stD, hS, gx, n1, ← hs, m2, n2, fm, -f_min]⟩
theorem stp7 : ∃ m, (0 ≤ m ∧ m ≤ 1000000) ∧ execB (T.cf (k + 1)) (ir_law_step.drop 5) ⟨stpE c nm kd SS 7 a b M y .no .no .no, os⟩ = .ok (.ret (stD (.gap nm a y m)) false) ⟨stpE c nm kd SS 7 a b M y .no .no .no, os⟩ := by
  obtain ⟨v1, p1, q1, n1⟩ := call_lnum (k := k) (c := M / 4) (m := 1000000) (os := os) (by omega) (by omega)
  exact ⟨v1, ⟨p1, q1⟩, by simp [ir_law_step, stD, hS, n1]⟩
end
theorem call_step {k : Nat} {c : Int} {nm kd : Str} {ss : List Str} {os : Os} (hc : Big c) (hk : Nam kd) :
    ∃ s : Pst, s.rng ∧ s.nm = nm ∧ (∀ a ∈ s.fd, a ∈ ss) ∧ call T (k + 2) ix_law_step [.int c, .str nm, .lst (ss.map D.str), .str kd] os = .ok (stD s, false) os := by
  obtain ⟨M, hM⟩ : ∃ M, M = c / 3200 + c / 8 * 48271 % 2147483647 := ⟨_, rfl⟩
  have m1 : mulOk (c / 8) 48271 = true := mulOk_b (big_div hc 8) (by omega) (by omega)
  obtain ⟨y, ty, hy⟩ := tal_at M
  have eq := q_eqsn (os := os) (l := ss)
  have fin : ∀ {d : D} {z : List Ent} {e5 : List Ent}, execB (T.cf (k + 1)) (ir_law_step.take 5) ⟨envOf [false, false, false, false] 12 [.int c, .str nm, .lst (ss.map D.str), .str kd], os⟩ = .ok .next ⟨e5, os⟩ → execB (T.cf (k + 1)) (ir_law_step.drop 5) ⟨e5, os⟩ = .ok (.ret d false) ⟨z, os⟩ → call T (k + 2) ix_law_step [.int c, .str nm, .lst (ss.map D.str), .str kd] os = .ok (d, false) os := fun h1 h2 => by
    rw [cl_law_step rfl, b_split 5 h1 h2]; rfl
  by_cases he : ss = []
  · subst he
    have pre : execB (T.cf (k + 1)) (ir_law_step.take 5) ⟨envOf [false, false, false, false] 12 [.int c, .str nm, .lst (([] : List Str).map D.str), .str kd], os⟩ = .ok .next ⟨stpE c nm kd [] (c % 8) S__d41d S__d41d M y .no .no .no, os⟩ := by
      simp [ir_law_step, m1, ← hM, hy]
    obtain ⟨z, ex⟩ := stp0 (k := k) (c := c) (M := M) (nm := nm) (kd := kd) (a := S__d41d) (b := S__d41d) (y := y) (SS := []) (os := os) (w := c % 8) (.inr (.inr rfl)) ⟨_, eq, fun _ => rfl⟩
    exact ⟨.take nm kd, hk, rfl, fun a h => by simp [Pst.fd] at h, fin pre ex⟩
  · obtain ⟨a, ha, e1⟩ := at_some he (c / 8)
    obtain ⟨b, hb, e2⟩ := at_some he (c / 160)
    have hp : 0 < ss.length := List.length_pos_iff.mpr he
    have b1 : ∀ os, binD .mod os (.int (c / 8)) (.int (ss.length : Int)) = some (.int (c / 8 % (ss.length : Int)), false) := fun os => bin_mod (by omega)
    have b2 : ∀ os, binD .mod os (.int (c / 160)) (.int (ss.length : Int)) = some (.int (c / 160 % (ss.length : Int)), false) := fun os => bin_mod (by omega)
    have ne := fun os => q_nesn (os := os) (l := ss)
    have ie : ss.isEmpty = false := by simpa using he
    rw [ie] at ne eq
    have ln : (((ss.map D.str).length : Nat) : Int) = (ss.length : Int) := by rw [List.length_map]
    have f1 : ∀ x ∈ [a], x ∈ ss := fun x h => by rw [List.mem_singleton.mp h]; exact ha
    have f2 : ∀ x ∈ [a, b], x ∈ ss := fun x h => by
      rcases List.mem_cons.mp h with h | h
      · rw [h]; exact ha
      · rw [List.mem_singleton.mp h]; exact hb
    generalize ss.map D.str = SS at *
    generalize (ss.length : Int) = LN at *
    clear ha hb he hp ie
    have pre : execB (T.cf (k + 1)) (ir_law_step.take 5) ⟨envOf [false, false, false, false] 12 [.int c, .str nm, .lst SS, .str kd], os⟩ = .ok .next ⟨stpE c nm kd SS (c % 8) a b M y .no .no .no, os⟩ := by
      simp [ir_law_step, m1, ← hM, hy, ne, ln, b1, b2, e1, e2]
    rcases mod8 c with h | h | h | h | h | h | h | h <;> rw [h] at pre
    · obtain ⟨z, ex⟩ := stp0 (k := k) (c := c) (M := M) (nm := nm) (kd := kd) (a := a) (b := b) (y := y) (SS := SS) (os := os) (w := 0) (.inl rfl) ⟨_, eq, fun h => by subst h; rw [q_ee] at eq; cases eq⟩
      exact ⟨.take nm kd, hk, rfl, fun a h => by simp [Pst.fd] at h, fin pre ex⟩
    · obtain ⟨z, ex⟩ := stp0 (k := k) (c := c) (M := M) (nm := nm) (kd := kd) (a := a) (b := b) (y := y) (SS := SS) (os := os) (w := 1) (.inr (.inl rfl)) ⟨_, eq, fun h => by subst h; rw [q_ee] at eq; cases eq⟩
      exact ⟨.take nm kd, hk, rfl, fun a h => by simp [Pst.fd] at h, fin pre ex⟩
    · obtain ⟨lo, hi, z, g, ex⟩ := stp2 (k := k) (c := c) (M := M) (nm := nm) (kd := kd) (a := a) (b := b) (y := y) eq
      exact ⟨.only nm a lo hi, g, rfl, f1, fin pre ex⟩
    · obtain ⟨t, m, g, ex⟩ := stp3 (k := k) (c := c) (M := M) (nm := nm) (kd := kd) (a := a) (b := b) (y := y) eq
      exact ⟨.turn nm a t m, g, rfl, f1, fin pre ex⟩
    · exact ⟨.both nm a b, trivial, rfl, f2, fin pre (stp4 eq)⟩
    · obtain ⟨w, g, ex⟩ := stp5 (k := k) (c := c) (M := M) (nm := nm) (kd := kd) (a := a) (b := b) (y := y) eq
      exact ⟨.join nm a b w, g, rfl, f2, fin pre ex⟩
    · obtain ⟨z, s, g, ex⟩ := stp6 (k := k) (c := c) (M := M) (nm := nm) (kd := kd) (a := a) (b := b) (y := y) eq
      exact ⟨.each nm a y z s, ⟨ty, g⟩, rfl, f1, fin pre ex⟩
    · obtain ⟨m, g, ex⟩ := stp7 (k := k) (c := c) (M := M) (nm := nm) (kd := kd) (a := a) (b := b) (y := y) eq
      exact ⟨.gap nm a y m, ⟨ty, g⟩, rfl, f1, fin pre ex⟩
end
end Vi

namespace Vi
open PySem L2
noncomputable section
open Classical
@[simp] theorem wn_take_only : ¬ (S_take = S_only) := by decide +kernel
@[simp] theorem wn_take_turn : ¬ (S_take = S_turn) := by decide +kernel
@[simp] theorem wn_take_both : ¬ (S_take = S_both) := by decide +kernel
@[simp] theorem wn_take_join : ¬ (S_take = S_join) := by decide +kernel
@[simp] theorem wn_take_each : ¬ (S_take = S_each) := by decide +kernel
@[simp] theorem wn_take_gap : ¬ (S_take = S_gap) := by decide +kernel
@[simp] theorem wn_only_take : ¬ (S_only = S_take) := by decide +kernel
@[simp] theorem wn_only_turn : ¬ (S_only = S_turn) := by decide +kernel
@[simp] theorem wn_only_both : ¬ (S_only = S_both) := by decide +kernel
@[simp] theorem wn_only_join : ¬ (S_only = S_join) := by decide +kernel
@[simp] theorem wn_only_each : ¬ (S_only = S_each) := by decide +kernel
@[simp] theorem wn_only_gap : ¬ (S_only = S_gap) := by decide +kernel
@[simp] theorem wn_turn_take : ¬ (S_turn = S_take) := by decide +kernel
@[simp] theorem wn_turn_only : ¬ (S_turn = S_only) := by decide +kernel
@[simp] theorem wn_turn_both : ¬ (S_turn = S_both) := by decide +kernel
@[simp] theorem wn_turn_join : ¬ (S_turn = S_join) := by decide +kernel
@[simp] theorem wn_turn_each : ¬ (S_turn = S_each) := by decide +kernel
@[simp] theorem wn_turn_gap : ¬ (S_turn = S_gap) := by decide +kernel
@[simp] theorem wn_both_take : ¬ (S_both = S_take) := by decide +kernel
@[simp] theorem wn_both_only : ¬ (S_both = S_only) := by decide +kernel
@[simp] theorem wn_both_turn : ¬ (S_both = S_turn) := by decide +kernel
@[simp] theorem wn_both_join : ¬ (S_both = S_join) := by decide +kernel
@[simp] theorem wn_both_each : ¬ (S_both = S_each) := by decide +kernel
@[simp] theorem wn_both_gap : ¬ (S_both = S_gap) := by decide +kernel
@[simp] theorem wn_join_take : ¬ (S_join = S_take) := by decide +kernel
@[simp] theorem wn_join_only : ¬ (S_join = S_only) := by decide +kernel
@[simp] theorem wn_join_turn : ¬ (S_join = S_turn) := by decide +kernel
@[simp] theorem wn_join_both : ¬ (S_join = S_both) := by decide +kernel
@[simp] theorem wn_join_each : ¬ (S_join = S_each) := by decide +kernel
@[simp] theorem wn_join_gap : ¬ (S_join = S_gap) := by decide +kernel
@[simp] theorem wn_each_take : ¬ (S_each = S_take) := by decide +kernel
@[simp] theorem wn_each_only : ¬ (S_each = S_only) := by decide +kernel
@[simp] theorem wn_each_turn : ¬ (S_each = S_turn) := by decide +kernel
@[simp] theorem wn_each_both : ¬ (S_each = S_both) := by decide +kernel
@[simp] theorem wn_each_join : ¬ (S_each = S_join) := by decide +kernel
@[simp] theorem wn_each_gap : ¬ (S_each = S_gap) := by decide +kernel
@[simp] theorem wn_gap_take : ¬ (S_gap = S_take) := by decide +kernel
@[simp] theorem wn_gap_only : ¬ (S_gap = S_only) := by decide +kernel
@[simp] theorem wn_gap_turn : ¬ (S_gap = S_turn) := by decide +kernel
@[simp] theorem wn_gap_both : ¬ (S_gap = S_both) := by decide +kernel
@[simp] theorem wn_gap_join : ¬ (S_gap = S_join) := by decide +kernel
@[simp] theorem wn_gap_each : ¬ (S_gap = S_each) := by decide +kernel
end
end Vi

namespace Vi
open PySem L2
noncomputable section
open Classical
def tallyB : D → Bool
  | .str s => decide (S_count = s) || (decide (S_sum = s) || (decide (S_least = s) || decide (S_greatest = s)))
  | _ => false
def rangeB : D → D → Bool
  | .int i, .int j => amongB (-1000000000) 1000000000 (.int i) && (amongB (-1000000000) 1000000000 (.int j) && decide (i ≤ j))
  | _, _ => false
def turnB (a b : D) : Bool := amongB (-9) 9 a && amongB (-1000000000) 1000000000 b
def windowB : D → D → Bool
  | .int z, .int s => amongB 1 1000000 (.int z) && (amongB 1 z (.int s) && decide (z ≤ 20 * s))
  | _, _ => false
def streamB : List D → Bool
  | [.str w, _, a] => decide (w = S_take) && nameB a
  | [.str w, _, a, b] => decide (w = S_both) && (nameB a && nameB b)
  | [.str w, _, a, b, c] => if w = S_only then nameB a && rangeB b c else if w = S_turn then nameB a && turnB b c else if w = S_join then nameB a && (nameB b && amongB 0 1000000 c) else false
  | _ => false
def tellB : List D → Bool
  | [.str w, _, a, b, c, d] => decide (w = S_each) && (nameB a && (tallyB b && windowB c d))
  | [.str w, _, a, b, c] => decide (w = S_gap) && (nameB a && (tallyB b && amongB 0 1000000 c))
  | _ => false
def stepB : D → Bool
  | .tup (.str w :: n :: r) => nameB n && (streamB (.str w :: n :: r) || tellB (.str w :: n :: r))
  | _ => false
theorem call_tally {k : Nat} {d : D} {os : Os} (h : Th d) : call T (k + 1) ix_is_tally [d] os = .ok (.bl (tallyB d), false) os := by
  cases h with
  | str s hs =>
    have q : cmpD .isin os (.str s) (.tup [.str S_count, .str S_sum, .str S_least, .str S_greatest]) = some (tallyB (.str s)) := by
      simp [cmpD, inD, D.flat, eqD, tallyB]
    generalize tallyB (.str s) = B at *
    simp [cl_is_tally, ir_is_tally, isD, q]
  | _ => simp [cl_is_tally, ir_is_tally, isD, isi_dct, tallyB]
theorem call_range {k : Nat} {a b : D} {os : Os} (ha : Th a) (hb : Th b) : call T (k + 4) ix_is_range [a, b] os = .ok (.bl (rangeB a b), false) os := by
  have c1 := call_amount (k := k) (os := os) ha
  have c2 := call_amount (k := k) (os := os) hb
  cases ha with
  | int i =>
    cases hb with
    | int j =>
      cases q1 : amongB (-1000000000) 1000000000 (.int i) <;> cases q2 : amongB (-1000000000) 1000000000 (.int j) <;> rw [q1] at c1 <;> rw [q2] at c2 <;> simp [cl_is_range, ir_is_range, rangeB, q1, q2, c1, c2]
    | _ => cases q1 : amongB (-1000000000) 1000000000 (.int i) <;> rw [q1] at c1 <;> simp [amongB] at c2 <;> simp [cl_is_range, ir_is_range, rangeB, c1, c2]
  | _ => simp [amongB] at c1; simp [cl_is_range, ir_is_range, rangeB, c1]
theorem call_turn {k : Nat} {a b : D} {os : Os} (ha : Th a) (hb : Th b) : call T (k + 4) ix_is_turn [a, b] os = .ok (.bl (turnB a b), false) os := by
  have c1 := call_among (k := k + 1) (a := -9) (b := 9) (os := os) ha
  have c2 := call_amount (k := k) (os := os) hb
  have n1 : a.cell = a.cell := rfl
  unfold turnB
  generalize amongB (-9) 9 a = B1 at *
  generalize amongB (-1000000000) 1000000000 b = B2 at *
  cases ha <;> cases hb <;> cases B1 <;> simp [cl_is_turn, ir_is_turn, c1, c2]
theorem call_window {k : Nat} {a b : D} {os : Os} (ha : Th a) (hb : Th b) : call T (k + 3) ix_is_window [a, b] os = .ok (.bl (windowB a b), false) os := by
  have c1 := call_among (k := k) (a := 1) (b := 1000000) (os := os) ha
  cases ha with
  | int z =>
    have c2 := call_among (k := k) (a := 1) (b := z) (os := os) hb
    cases q1 : amongB 1 1000000 (.int z) <;> rw [q1] at c1
    · cases hb <;> simp [cl_is_window, ir_is_window, windowB, q1, c1]
    · cases hb with
      | int s =>
        cases q2 : amongB 1 z (.int s) <;> rw [q2] at c2
        · simp [cl_is_window, ir_is_window, windowB, q1, q2, c1, c2]
        · simp only [amongB, Bool.and_eq_true, decide_eq_true_eq] at q1 q2
          have m1 : mulOk 20 s = true := mulOk_s (by omega) (by omega) (by omega) (by omega)
          have q3 : amongB 1 1000000 (.int z) = true := by simp [amongB, q1]
          have q4 : amongB 1 z (.int s) = true := by simp [amongB, q2]
          simp [cl_is_window, ir_is_window, windowB, q3, q4, c1, c2, m1]
      | _ => simp [amongB] at c2; simp [cl_is_window, ir_is_window, windowB, c1, c2]
  | _ => simp [amongB] at c1; simp [cl_is_window, ir_is_window, windowB, c1]
theorem at2' {α : Type} {a b c : α} {l : List α} : atI (a :: b :: c :: l) 2 = some c := at2
/-- which word it is -/
theorem word (w : Str) : w = S_take ∨ w = S_only ∨ w = S_turn ∨ w = S_both ∨ w = S_join ∨ w = S_each ∨ w = S_gap ∨ (w ≠ S_take ∧ w ≠ S_only ∧ w ≠ S_turn ∧ w ≠ S_both ∧ w ≠ S_join ∧ w ≠ S_each ∧ w ≠ S_gap) := by
  by_cases h1 : w = S_take
  · exact .inl h1
  by_cases h2 : w = S_only
  · exact .inr (.inl h2)
  by_cases h3 : w = S_turn
  · exact .inr (.inr (.inl h3))
  by_cases h4 : w = S_both
  · exact .inr (.inr (.inr (.inl h4)))
  by_cases h5 : w = S_join
  · exact .inr (.inr (.inr (.inr (.inl h5))))
  by_cases h6 : w = S_each
  · exact .inr (.inr (.inr (.inr (.inr (.inl h6)))))
  by_cases h7 : w = S_gap
  · exact .inr (.inr (.inr (.inr (.inr (.inr (.inl h7))))))
  exact .inr (.inr (.inr (.inr (.inr (.inr (.inr ⟨h1, h2, h3, h4, h5, h6, h7⟩))))))
/-- the shapes of what is behind the third part -/
theorem shape {α : Type} (r : List α) : r = [] ∨ (∃ b, r = [b]) ∨ (∃ b c, r = [b, c]) ∨ (∃ b c d, r = [b, c, d]) ∨ 4 ≤ r.length := by
  match r with
  | [] => exact .inl rfl
  | [b] => exact .inr (.inl ⟨b, rfl⟩)
  | [b, c] => exact .inr (.inr (.inl ⟨b, c, rfl⟩))
  | [b, c, d] => exact .inr (.inr (.inr (.inl ⟨b, c, d, rfl⟩)))
  | a :: b :: c :: d :: r => exact .inr (.inr (.inr (.inr (by simp))))
theorem streamB_long {w : Str} {n a : D} {r : List D} (h : 4 ≤ r.length) : streamB (.str w :: n :: a :: r) = false ∧ tellB (.str w :: n :: a :: r) = false := by
  match r, h with
  | a :: b :: c :: d :: r, _ => exact ⟨rfl, rfl⟩
theorem call_stream {k : Nat} {w : Str} {n a : D} {r : List D} {os : Os} (ha : Th a) (hr : ∀ x ∈ r, Th x) : call T (k + 5) ix_is_stream [.tup (.str w :: n :: a :: r)] os = .ok (.bl (streamB (.str w :: n :: a :: r)), false) os := by
  have ca := call_name (k := k + 3) (os := os) ha
  rw [cl_is_stream rfl]
  rcases shape r with rfl | ⟨b, rfl⟩ | ⟨b, c, rfl⟩ | ⟨b, c, d, rfl⟩ | h4
  · simp only [streamB]
    generalize nameB a = A at *
    rcases word w with rfl | rfl | rfl | rfl | rfl | rfl | rfl | ⟨h1, h2, h3, h4, h5, h6, h7⟩ <;> simp [ir_is_stream, at0, at2, ca, *]
  · have cb := call_name (k := k + 3) (os := os) (hr b (by simp))
    clear hr ha
    simp only [streamB]
    generalize nameB a = A at *
    generalize nameB b = B at *
    rcases word w with rfl | rfl | rfl | rfl | rfl | rfl | rfl | ⟨h1, h2, h3, h4, h5, h6, h7⟩ <;> cases A <;> simp [ir_is_stream, at0, at2, at3, ca, cb, *]
  · have hb := hr b (by simp)
    have hc := hr c (by simp)
    have cb := call_name (k := k + 3) (os := os) hb
    have c1 := call_range (k := k) (os := os) hb hc
    have c2 := call_turn (k := k) (os := os) hb hc
    have c3 := call_among (k := k + 2) (a := 0) (b := 1000000) (os := os) hc
    clear hr ha hb hc
    simp only [streamB]
    generalize nameB a = A at *
    generalize nameB b = B at *
    generalize rangeB b c = RB at *
    generalize turnB b c = TB at *
    generalize amongB 0 1000000 c = CB at *
    rcases word w with rfl | rfl | rfl | rfl | rfl | rfl | rfl | ⟨h1, h2, h3, h4, h5, h6, h7⟩ <;> cases A <;> cases B <;> simp [ir_is_stream, at0, at2, at3, at4, ca, cb, c1, c2, c3, *]
  · clear hr ha ca
    simp only [streamB]
    rcases word w with rfl | rfl | rfl | rfl | rfl | rfl | rfl | ⟨h1, h2, h3, h4, h5, h6, h7⟩ <;> simp [ir_is_stream, at0, *]
  · rw [(streamB_long h4).1]
    obtain ⟨L, hL⟩ : ∃ L, L = .str w :: n :: a :: r := ⟨_, rfl⟩
    have e0 : atI L 0 = some (.str w) := by rw [hL]; exact at0
    have ln : 7 ≤ L.length := by rw [hL]; simp; omega
    rw [← hL]
    clear hL hr ha ca
    have n3 : ¬ (L.length : Int) = 3 := by omega
    have n4 : ¬ (L.length : Int) = 4 := by omega
    have n5 : ¬ (L.length : Int) = 5 := by omega
    have n3' : ¬ L.length = 3 := by omega
    have n4' : ¬ L.length = 4 := by omega
    have n5' : ¬ L.length = 5 := by omega
    clear ln h4
    rcases word w with rfl | rfl | rfl | rfl | rfl | rfl | rfl | ⟨h1, h2, h3, h4, h5, h6, h7⟩ <;> simp [ir_is_stream, *]
theorem call_telling {k : Nat} {w : Str} {n a : D} {r : List D} {os : Os} (ha : Th a) (hr : ∀ x ∈ r, Th x) : call T (k + 5) ix_is_telling [.tup (.str w :: n :: a :: r)] os = .ok (.bl (tellB (.str w :: n :: a :: r)), false) os := by
  have ca := call_name (k := k + 3) (os := os) ha
  rw [cl_is_telling rfl]
  rcases shape r with rfl | ⟨b, rfl⟩ | ⟨b, c, rfl⟩ | ⟨b, c, d, rfl⟩ | h4
  · simp only [tellB]
    rcases word w with rfl | rfl | rfl | rfl | rfl | rfl | rfl | ⟨h1, h2, h3, h4, h5, h6, h7⟩ <;> simp [ir_is_telling, at0, *]
  · simp only [tellB]
    rcases word w with rfl | rfl | rfl | rfl | rfl | rfl | rfl | ⟨h1, h2, h3, h4, h5, h6, h7⟩ <;> simp [ir_is_telling, at0, *]
  · have hb := hr b (by simp)
    have hc := hr c (by simp)
    have cb := call_tally (k := k + 3) (os := os) hb
    have c3 := call_among (k := k + 2) (a := 0) (b := 1000000) (os := os) hc
    clear hr ha hb hc
    simp only [tellB]
    generalize nameB a = A at *
    generalize tallyB b = B at *
    generalize amongB 0 1000000 c = CB at *
    rcases word w with rfl | rfl | rfl | rfl | rfl | rfl | rfl | ⟨h1, h2, h3, h4, h5, h6, h7⟩ <;> cases A <;> cases B <;> simp [ir_is_telling, at0, at2, at3, at4, ca, cb, c3, *]
  · have hb := hr b (by simp)
    have cb := call_tally (k := k + 3) (os := os) hb
    have c3 := call_window (k := k + 1) (os := os) (hr c (by simp)) (hr d (by simp))
    clear hr ha hb
    simp only [tellB]
    generalize nameB a = A at *
    generalize tallyB b = B at *
    generalize windowB c d = CB at *
    rcases word w with rfl | rfl | rfl | rfl | rfl | rfl | rfl | ⟨h1, h2, h3, h4, h5, h6, h7⟩ <;> cases A <;> cases B <;> simp [ir_is_telling, at0, at2, at3, at4, at5, ca, cb, c3, *]
  · rw [(streamB_long h4).2]
    obtain ⟨L, hL⟩ : ∃ L, L = .str w :: n :: a :: r := ⟨_, rfl⟩
    have e0 : atI L 0 = some (.str w) := by rw [hL]; exact at0
    have ln : 7 ≤ L.length := by rw [hL]; simp; omega
    rw [← hL]
    clear hL hr ha ca
    have n5 : ¬ (L.length : Int) = 5 := by omega
    have n6 : ¬ (L.length : Int) = 6 := by omega
    have n5' : ¬ L.length = 5 := by omega
    have n6' : ¬ L.length = 6 := by omega
    clear ln h4
    rcases word w with rfl | rfl | rfl | rfl | rfl | rfl | rfl | ⟨h1, h2, h3, h4, h5, h6, h7⟩ <;> simp [ir_is_telling, *]
end
end Vi

namespace Vi
open PySem L2
noncomputable section
open Classical
/-- the things that are asked whether they are steps -/
def Obs (d : D) : Prop := (∃ l, d = .tup l ∧ ∀ x ∈ l, Th x) ∨ d = .non ∨ ∃ l, d = .lst l
theorem th_tup {l : List D} (h : Th (.tup l)) : l.length < 4 := by cases h; assumption
theorem call_istep {k : Nat} {l : List D} {os : Os} (h : ∀ x ∈ l, Th x) : call T (k + 6) ix_is_step [.tup l] os = .ok (.bl (stepB (.tup l)), false) os := by
  rw [cl_is_step rfl]
  match l, h with
  | [], _ => simp [ir_is_step, stepB, isD]
  | [a], _ => simp [ir_is_step, stepB, isD]
  | [a, b], h =>
    have : stepB (.tup [a, b]) = false := by cases a <;> simp [stepB, streamB, tellB]
    rw [this]
    simp [ir_is_step, isD]
  | a :: b :: c :: r, h =>
    have cb := call_name (k := k + 4) (os := os) (h b (by simp))
    cases h a (by simp) with
    | str w hw =>
      have c1 := call_stream (k := k) (w := w) (n := b) (a := c) (r := r) (os := os) (h c (by simp)) fun x hx => h x (by simp [hx])
      have c2 := call_telling (k := k) (w := w) (n := b) (a := c) (r := r) (os := os) (h c (by simp)) fun x hx => h x (by simp [hx])
      simp only [stepB]
      obtain ⟨L, hL⟩ : ∃ L, L = D.str w :: b :: c :: r := ⟨_, rfl⟩
      have e0 : atI L 0 = some (.str w) := by rw [hL]; exact at0
      have e1 : atI L 1 = some b := by rw [hL]; exact at1
      have ln : 3 ≤ L.length := by rw [hL]; simp
      rw [← hL] at c1 c2 ⊢
      clear hL h
      have n3 : ¬ (L.length : Int) < 3 := by omega
      have n3' : ¬ L.length < 3 := by omega
      generalize nameB b = B at *
      generalize streamB L = S1 at *
      generalize tellB L = S2 at *
      clear ln
      cases B <;> cases S1 <;> cases S2 <;> simp [ir_is_step, isD, *]
    | int i =>
      obtain ⟨L, hL⟩ : ∃ L, L = D.int i :: b :: c :: r := ⟨_, rfl⟩
      have e0 : atI L 0 = some (.int i) := by rw [hL]; exact at0
      have ln : 3 ≤ L.length := by rw [hL]; simp
      have st : stepB (.tup L) = false := by rw [hL]; rfl
      rw [← hL, st]
      have n3 : ¬ (L.length : Int) < 3 := by omega
      have n3' : ¬ L.length < 3 := by omega
      clear hL h ln
      simp [ir_is_step, isD, *]
    | non =>
      obtain ⟨L, hL⟩ : ∃ L, L = D.non :: b :: c :: r := ⟨_, rfl⟩
      have e0 : atI L 0 = some .non := by rw [hL]; exact at0
      have ln : 3 ≤ L.length := by rw [hL]; simp
      have st : stepB (.tup L) = false := by rw [hL]; rfl
      rw [← hL, st]
      have n3 : ¬ (L.length : Int) < 3 := by omega
      have n3' : ¬ L.length < 3 := by omega
      clear hL h ln
      simp [ir_is_step, isD, *]
    | bl v =>
      obtain ⟨L, hL⟩ : ∃ L, L = D.bl v :: b :: c :: r := ⟨_, rfl⟩
      have e0 : atI L 0 = some (.bl v) := by rw [hL]; exact at0
      have ln : 3 ≤ L.length := by rw [hL]; simp
      have st : stepB (.tup L) = false := by rw [hL]; rfl
      rw [← hL, st]
      have n3 : ¬ (L.length : Int) < 3 := by omega
      have n3' : ¬ L.length < 3 := by omega
      clear hL h ln
      simp [ir_is_step, isD, *]
    | tup v hv =>
      obtain ⟨L, hL⟩ : ∃ L, L = D.tup v :: b :: c :: r := ⟨_, rfl⟩
      have e0 : atI L 0 = some (.tup v) := by rw [hL]; exact at0
      have ln : 3 ≤ L.length := by rw [hL]; simp
      have st : stepB (.tup L) = false := by rw [hL]; rfl
      rw [← hL, st]
      have n3 : ¬ (L.length : Int) < 3 := by omega
      have n3' : ¬ L.length < 3 := by omega
      clear hL h ln
      simp [ir_is_step, isD, *]
    | lst v =>
      obtain ⟨L, hL⟩ : ∃ L, L = D.lst v :: b :: c :: r := ⟨_, rfl⟩
      have e0 : atI L 0 = some (.lst v) := by rw [hL]; exact at0
      have ln : 3 ≤ L.length := by rw [hL]; simp
      have st : stepB (.tup L) = false := by rw [hL]; rfl
      rw [← hL, st]
      have n3 : ¬ (L.length : Int) < 3 := by omega
      have n3' : ¬ L.length < 3 := by omega
      clear hL h ln
      simp [ir_is_step, isD, *]
    | dct v =>
      obtain ⟨L, hL⟩ : ∃ L, L = D.dct v :: b :: c :: r := ⟨_, rfl⟩
      have e0 : atI L 0 = some (.dct v) := by rw [hL]; exact at0
      have ln : 3 ≤ L.length := by rw [hL]; simp
      have st : stepB (.tup L) = false := by rw [hL]; rfl
      rw [← hL, st]
      have n3 : ¬ (L.length : Int) < 3 := by omega
      have n3' : ¬ L.length < 3 := by omega
      clear hL h ln
      simp [ir_is_step, isD, isi_dct, *]
theorem call_istepO {k : Nat} {d : D} {os : Os} (h : Obs d) : call T (k + 6) ix_is_step [d] os = .ok (.bl (stepB d), false) os := by
  rcases h with ⟨l, rfl, hl⟩ | rfl | ⟨l, rfl⟩
  · exact call_istep hl
  · simp [cl_is_step, ir_is_step, isD, stepB]
  · simp [cl_is_step, ir_is_step, isD, stepB]
/-! the law's own look -/
def SZ : List (D × D) := [(.str S_take, .int 3), (.str S_only, .int 5), (.str S_turn, .int 5), (.str S_both, .int 4), (.str S_join, .int 5), (.str S_each, .int 6), (.str S_gap, .int 5)]
def szOf (w : Str) : Int := if w = S_take then 3 else if w = S_only then 5 else if w = S_turn then 5 else if w = S_both then 4 else if w = S_join then 5 else if w = S_each then 6 else if w = S_gap then 5 else 0
theorem dsp_sz {z : Z} : dspZ z [.str S_take, .int 3, .str S_only, .int 5, .str S_turn, .int 5, .str S_both, .int 4, .str S_join, .int 5, .str S_each, .int 6, .str S_gap, .int 5] = .ok (.dct SZ, true) z := by
  simp [dspZ, pairUp, keyOk, putD, eqD, SZ, -List.any_eq_true]
theorem get_sz {z : Z} {w : Str} : getZ2 z (.dct SZ) (.str w) (.int 0) = .ok (.int (szOf w), false) z := by
  have e : dctO z.os (.dct SZ) = some SZ := rfl
  have k : (keyOk (.str w) && SZ.all fun p => keyOk p.1) = true := by simp [SZ, keyOk]
  have l : (lookD SZ (.str w)).getD (.int 0) = .int (szOf w) := by
    rcases word w with rfl | rfl | rfl | rfl | rfl | rfl | rfl | ⟨h1, h2, h3, h4, h5, h6, h7⟩
    iterate 7 simp [lookD, SZ, eqD, szOf]
    have h1 := Ne.symm h1
    have h2 := Ne.symm h2
    have h3 := Ne.symm h3
    have h4 := Ne.symm h4
    have h5 := Ne.symm h5
    have h6 := Ne.symm h6
    have h7 := Ne.symm h7
    simp [lookD, SZ, eqD, szOf, *]
  unfold getZ2
  rw [e]
  simp only [k, if_true, l]
theorem dct_some {os : Os} : (dctO os (.dct SZ)).isSome = true := rfl
theorem es_sz {cf : CF} {z : Z} : evalEs cf [.c (.str S_take), .c (.int 3), .c (.str S_only), .c (.int 5), .c (.str S_turn), .c (.int 5), .c (.str S_both), .c (.int 4), .c (.str S_join), .c (.int 5), .c (.str S_each), .c (.int 6), .c (.str S_gap), .c (.int 5)] z = .ok [.str S_take, .int 3, .str S_only, .int 5, .str S_turn, .int 5, .str S_both, .int 4, .str S_join, .int 5, .str S_each, .int 6, .str S_gap, .int 5] z := by
  simp
theorem x_sz {cf : CF} {z : Z} : execS cf (.set (.nm 1) (.dct [.c (.str S_take), .c (.int 3), .c (.str S_only), .c (.int 5), .c (.str S_turn), .c (.int 5), .c (.str S_both), .c (.int 4), .c (.str S_join), .c (.int 5), .c (.str S_each), .c (.int 6), .c (.str S_gap), .c (.int 5)])) z = .ok .next { z with env := z.env.set 1 (.val (.dct SZ) true) } := by
  rw [x_nm, e_dct, es_sz, R.bind_ok, dsp_sz, R.bind_ok]
theorem x_get {cf : CF} {e1 : Bool} {L : List D} {w : Str} {os : Os} (h : atI L 0 = some (.str w)) : evalE cf (.get (.b 1) (.ix (.b 0) (.c (.int 0))) (.c (.int 0))) ⟨[.val (.tup L) false, .val (.dct SZ) e1], os⟩ = .ok (.int (szOf w), false) ⟨[.val (.tup L) false, .val (.dct SZ) e1], os⟩ := by
  have a : evalE cf (.b 1) ⟨[.val (.tup L) false, .val (.dct SZ) e1], os⟩ = .ok (.dct SZ, false) ⟨[.val (.tup L) false, .val (.dct SZ) e1], os⟩ := by rw [e_b]; rfl
  have b : evalE cf (.ix (.b 0) (.c (.int 0))) ⟨[.val (.tup L) false, .val (.dct SZ) e1], os⟩ = .ok (.str w, false) ⟨[.val (.tup L) false, .val (.dct SZ) e1], os⟩ := by simp [h]
  rw [e_get, a, R.bind_ok, dct_some, ifZ_t, b, R.bind_ok, e_c, R.bind_ok, get_sz]
theorem q_tal {os : Os} {s : Str} : cmpD .notin os (.str s) (.tup [.str S_count, .str S_sum, .str S_least, .str S_greatest]) = some (!tallyB (.str s)) := by
  simp [cmpD, inD, D.flat, eqD, tallyB]
theorem rangeB_eq {c : D} {i : Int} (hc : Th c) : amongB (-1000000000) 1000000000 (.int i) = true → rangeB c (.int i) = amongB (-1000000000) i c := by
  intro q
  simp only [amongB, Bool.and_eq_true, decide_eq_true_eq] at q
  cases hc <;> simp [rangeB, amongB]
  rename_i j
  by_cases a : -1000000000 ≤ j <;> by_cases b : j ≤ i <;> simp [a, b, q] <;> omega
end
end Vi

namespace Vi
open PySem L2
noncomputable section
open Classical
section
variable {k : Nat} {L : List D} {w : Str} {a0 b0 a b c d : D} {os : Os} {N A B : Bool}
theorem lst_head (hi : ∀ z, isiZ [.str] z a0 = .ok (.bl false, false) z) (e0 : atI L 0 = some a0) (e1 : atI L 1 = some b0) (n3 : ¬ (L.length : Int) < 3) (n3' : ¬ L.length < 3) (c0 : call T (k + 1) ix_law_is_name [b0] os = .ok (.bl N, false) os) :
    ∃ z, execB (T.cf (k + 1)) (ir_law_is_step.take 3) ⟨[.val (.tup L) false, .no], os⟩ = .ok (.ret (.bl false) false) ⟨z, os⟩ := by
  cases N
  · exact ⟨[.val (.tup L) false, .no], by simp [ir_law_is_step, isD, -x_nm, -e_dct, *]⟩
  · exact ⟨[.val (.tup L) false, .val (.dct SZ) true], by simp [ir_law_is_step, isD, x_sz, -x_nm, -e_dct, *]⟩
theorem lst_no (e0 : atI L 0 = some (.str w)) (e1 : atI L 1 = some b0) (e2 : atI L 2 = some a) (n3 : ¬ (L.length : Int) < 3) (n3' : ¬ L.length < 3) (c0 : call T (k + 1) ix_law_is_name [b0] os = .ok (.bl N, false) os) (ca : call T (k + 1) ix_law_is_name [a] os = .ok (.bl A, false) os)
    (h : N = false ∨ ¬ szOf w = (L.length : Int) ∨ A = false) : ∃ z, execB (T.cf (k + 1)) (ir_law_is_step.take 3) ⟨[.val (.tup L) false, .no], os⟩ = .ok (.ret (.bl false) false) ⟨z, os⟩ := by
  cases N with
  | false => exact ⟨[.val (.tup L) false, .no], by simp [ir_law_is_step, isD, -x_nm, -e_dct, *]⟩
  | true =>
    refine ⟨[.val (.tup L) false, .val (.dct SZ) true], ?_⟩
    by_cases hs : szOf w = (L.length : Int)
    · have hA : A = false := by simpa [hs] using h
      subst hA
      clear h
      simp [ir_law_is_step, isD, x_sz, x_get, -x_nm, -e_dct, -e_get, *]
    · clear h
      simp [ir_law_is_step, isD, x_sz, x_get, -x_nm, -e_dct, -e_get, *]
theorem lst_ok (e0 : atI L 0 = some (.str w)) (e1 : atI L 1 = some b0) (e2 : atI L 2 = some a) (n3 : ¬ (L.length : Int) < 3) (n3' : ¬ L.length < 3) (c0 : call T (k + 1) ix_law_is_name [b0] os = .ok (.bl true, false) os) (ca : call T (k + 1) ix_law_is_name [a] os = .ok (.bl true, false) os)
    (hs : szOf w = (L.length : Int)) : execB (T.cf (k + 1)) (ir_law_is_step.take 3) ⟨[.val (.tup L) false, .no], os⟩ = .ok .next ⟨[.val (.tup L) false, .val (.dct SZ) true], os⟩ := by
  simp [ir_law_is_step, isD, x_sz, x_get, -x_nm, -e_dct, -e_get, *]
variable {f : Ent} (ca : call T (k + 1) ix_law_is_name [a] os = .ok (.bl true, false) os)
end
end
end Vi

namespace Vi
open PySem L2
noncomputable section
open Classical
section
variable {k : Nat} {L : List D} {w : Str} {a0 b0 a b c d : D} {os : Os} {N A B : Bool} {f : Ent}
theorem lst_take  : execB (T.cf (k + 1)) (ir_law_is_step.drop 3) ⟨[.val (.tup [.str S_take, b0, a]) false, f], os⟩ = .ok (.ret (.bl true) false) ⟨[.val (.tup [.str S_take, b0, a]) false, f], os⟩ := by
  show execB _ (_ :: _) _ = _
  refine (b_skip (by simp [at0, at3, at4, at5, isD])).trans ?_
  refine (b_skip (by simp [at0, at3, at4, at5, isD])).trans ?_
  refine (b_skip (by simp [at0, at3, at4, at5, isD])).trans ?_
  refine (b_skip (by simp [at0, at3, at4, at5, isD])).trans ?_
  exact b_take (by simp [at0, at3, at4, at5, isD]) (by simp [])
theorem lst_both (cb : call T (k + 1) ix_law_is_name [b] os = .ok (.bl B, false) os) : execB (T.cf (k + 1)) (ir_law_is_step.drop 3) ⟨[.val (.tup [.str S_both, b0, a, b]) false, f], os⟩ = .ok (.ret (.bl B) false) ⟨[.val (.tup [.str S_both, b0, a, b]) false, f], os⟩ := by
  show execB _ (_ :: _) _ = _
  refine (b_skip (by simp [at0, at3, at4, at5, isD])).trans ?_
  refine (b_skip (by simp [at0, at3, at4, at5, isD])).trans ?_
  refine (b_skip (by simp [at0, at3, at4, at5, isD])).trans ?_
  refine b_take (by simp [at0, at3, at4, at5, isD]) ?_
  cases B <;> simp [at0, at3, at4, at5, isD, cb]
theorem lst_only (hb : Th b) (hc : Th c) : execB (T.cf (k + 1)) (ir_law_is_step.drop 3) ⟨[.val (.tup [.str S_only, b0, a, b, c]) false, f], os⟩ = .ok (.ret (.bl (rangeB b c)) false) ⟨[.val (.tup [.str S_only, b0, a, b, c]) false, f], os⟩ := by
  have c1 := call_lamong (k := k) (a := -1000000000) (b := 1000000000) (os := os) hc
  show execB _ (_ :: _) _ = _
  by_cases q : amongB (-1000000000) 1000000000 c = true
  · rw [q] at c1
    obtain ⟨i, rfl⟩ : ∃ i, c = .int i := by cases hc <;> simp [amongB] at q; exact ⟨_, rfl⟩
    have c4 := call_lamong (k := k) (a := -1000000000) (b := i) (os := os) hb
    have e := rangeB_eq hb q
    rw [e]
    generalize amongB (-1000000000) i b = B1 at *
    refine (b_skip (by simp [at0, at4, c1])).trans ?_
    exact b_take (by simp [at0]) (by simp [at3, at4, c4])
  · have q' : amongB (-1000000000) 1000000000 c = false := by simpa using q
    rw [q'] at c1
    have e : rangeB b c = false := by cases hb <;> cases hc <;> simp [rangeB, amongB] at q' ⊢ <;> omega
    rw [e]
    exact b_take (by simp [at0, at4, c1]) (by simp)
theorem lst_turn (hb : Th b) (hc : Th c) : execB (T.cf (k + 1)) (ir_law_is_step.drop 3) ⟨[.val (.tup [.str S_turn, b0, a, b, c]) false, f], os⟩ = .ok (.ret (.bl (turnB b c)) false) ⟨[.val (.tup [.str S_turn, b0, a, b, c]) false, f], os⟩ := by
  have c1 := call_lamong (k := k) (a := -1000000000) (b := 1000000000) (os := os) hc
  have c2 := call_lamong (k := k) (a := -9) (b := 9) (os := os) hb
  unfold turnB
  generalize amongB (-1000000000) 1000000000 c = B1 at *
  generalize amongB (-9) 9 b = B2 at *
  show execB _ (_ :: _) _ = _
  refine (b_skip (by simp [at0, at3, at4, at5, isD])).trans ?_
  refine (b_skip (by simp [at0, at3, at4, at5, isD])).trans ?_
  refine b_take (by simp [at0]) ?_
  cases B2 <;> simp [at3, at4, c1, c2]
theorem lst_join (cb : call T (k + 1) ix_law_is_name [b] os = .ok (.bl B, false) os) (hc : Th c) : execB (T.cf (k + 1)) (ir_law_is_step.drop 3) ⟨[.val (.tup [.str S_join, b0, a, b, c]) false, f], os⟩ = .ok (.ret (.bl (B && amongB 0 1000000 c)) false) ⟨[.val (.tup [.str S_join, b0, a, b, c]) false, f], os⟩ := by
  have c1 := call_lamong (k := k) (a := 0) (b := 1000000) (os := os) hc
  generalize amongB 0 1000000 c = B1 at *
  show execB _ (_ :: _) _ = _
  refine (b_skip (by simp [at0, at3, at4, at5, isD])).trans ?_
  refine (b_skip (by simp [at0, at3, at4, at5, isD])).trans ?_
  refine (b_skip (by simp [at0, at3, at4, at5, isD])).trans ?_
  refine b_take (by simp [at0]) ?_
  cases B <;> simp [at3, at4, c1, cb]
theorem lst_gap (hb : Th b) (hc : Th c) : execB (T.cf (k + 1)) (ir_law_is_step.drop 3) ⟨[.val (.tup [.str S_gap, b0, a, b, c]) false, f], os⟩ = .ok (.ret (.bl (tallyB b && amongB 0 1000000 c)) false) ⟨[.val (.tup [.str S_gap, b0, a, b, c]) false, f], os⟩ := by
  have c1 := call_lamong (k := k) (a := 0) (b := 1000000) (os := os) hc
  generalize amongB 0 1000000 c = B1 at *
  show execB _ (_ :: _) _ = _
  refine (b_skip (by simp [at0, at3, at4, at5, isD])).trans ?_
  refine (b_skip (by simp [at0, at3, at4, at5, isD])).trans ?_
  refine (b_skip (by simp [at0, at3, at4, at5, isD])).trans ?_
  refine (b_skip (by simp [at0, at3, at4, at5, isD])).trans ?_
  refine (b_skip (by simp [at0, at3, at4, at5, isD])).trans ?_
  cases hb with
  | str s hs =>
    have q := q_tal (os := os) (s := s)
    generalize tallyB (.str s) = B at *
    cases B with
    | false => exact b_take (by simp [at3, isD, q]) (by simp)
    | true =>
      refine (b_skip (by simp [at3, isD, q])).trans ?_
      exact b_take (by simp [at0]) (by simp [at4, c1])
  | _ => exact b_take (by simp [at3, isD, isi_dct]) (by simp [tallyB])
theorem lst_each (hb : Th b) (hc : Th c) (hd : Th d) : execB (T.cf (k + 1)) (ir_law_is_step.drop 3) ⟨[.val (.tup [.str S_each, b0, a, b, c, d]) false, f], os⟩ = .ok (.ret (.bl (tallyB b && windowB c d)) false) ⟨[.val (.tup [.str S_each, b0, a, b, c, d]) false, f], os⟩ := by
  have c1 := call_lamong (k := k) (a := 1) (b := 1000000) (os := os) hc
  show execB _ (_ :: _) _ = _
  refine (b_skip (by simp [at0, at3, at4, at5, isD])).trans ?_
  refine (b_skip (by simp [at0, at3, at4, at5, isD])).trans ?_
  refine (b_skip (by simp [at0, at3, at4, at5, isD])).trans ?_
  refine (b_skip (by simp [at0, at3, at4, at5, isD])).trans ?_
  refine (b_skip (by simp [at0, at3, at4, at5, isD])).trans ?_
  cases hb with
  | str s hs =>
    have q := q_tal (os := os) (s := s)
    generalize tallyB (.str s) = B at *
    cases B with
    | false => exact b_take (by simp [at3, isD, q]) (by simp)
    | true =>
      refine (b_skip (by simp [at3, isD, q])).trans ?_
      refine (b_skip (by simp [at0])).trans ?_
      by_cases q1 : amongB 1 1000000 c = true
      · rw [q1] at c1
        obtain ⟨i, rfl⟩ : ∃ i, c = .int i := by cases hc <;> simp [amongB] at q1; exact ⟨_, rfl⟩
        have c4 := call_lamong (k := k) (a := 1) (b := i) (os := os) hd
        by_cases q2 : amongB 1 i d = true
        · rw [q2] at c4
          obtain ⟨j, rfl⟩ : ∃ j, d = .int j := by cases hd <;> simp [amongB] at q2; exact ⟨_, rfl⟩
          have m1 : mulOk 20 j = true := by
            simp only [amongB, Bool.and_eq_true, decide_eq_true_eq] at q1 q2
            exact mulOk_s (by omega) (by omega) (by omega) (by omega)
          simp only [windowB, q1, q2]
          refine (b_skip (by simp [at4, at5, c1, c4])).trans ?_
          exact b_ret (by simp [at4, at5, m1])
        · have q2' : amongB 1 i d = false := by simpa using q2
          rw [q2'] at c4
          have e : windowB (.int i) d = false := by cases hd <;> simp [windowB]; simp [q2']
          rw [e]
          exact b_take (by simp [at4, at5, c1, c4]) (by simp)
      · have q1' : amongB 1 1000000 c = false := by simpa using q1
        rw [q1'] at c1
        have e : windowB c d = false := by cases hc <;> cases hd <;> simp [windowB]; simp [q1']
        rw [e]
        exact b_take (by simp [at4, c1]) (by simp)
  | _ => exact b_take (by simp [at3, isD, isi_dct]) (by simp [tallyB])
end
end
end Vi

namespace Vi
open PySem L2
noncomputable section
open Classical
theorem len2 {α : Type} {r : List α} (h : r.length = 2) : ∃ b c, r = [b, c] := by
  match r, h with
  | [b, c], _ => exact ⟨b, c, rfl⟩
theorem len3 {α : Type} {r : List α} (h : r.length = 3) : ∃ b c d, r = [b, c, d] := by
  match r, h with
  | [b, c, d], _ => exact ⟨b, c, d, rfl⟩
theorem word_sz {w : Str} {n : Int} (h : szOf w = n) (hn : 3 ≤ n) : (n = 3 ∧ w = S_take) ∨ (n = 4 ∧ w = S_both) ∨ (n = 5 ∧ (w = S_only ∨ w = S_turn ∨ w = S_join ∨ w = S_gap)) ∨ (n = 6 ∧ w = S_each) := by
  rcases word w with rfl | rfl | rfl | rfl | rfl | rfl | rfl | ⟨h1, h2, h3, h4, h5, h6, h7⟩
  iterate 7 (simp [szOf] at h; subst h; simp)
  simp [szOf, *] at h
  omega
theorem streamB_sz {w : Str} {n a : D} {r : List D} (h : ¬ szOf w = ((r.length : Int) + 3)) : streamB (.str w :: n :: a :: r) = false ∧ tellB (.str w :: n :: a :: r) = false := by
  rcases shape r with rfl | ⟨b, rfl⟩ | ⟨b, c, rfl⟩ | ⟨b, c, d, rfl⟩ | h4
  · simp only [streamB, tellB]
    rcases word w with rfl | rfl | rfl | rfl | rfl | rfl | rfl | ⟨h1, h2, h3, h4, h5, h6, h7⟩ <;> simp [szOf] at h <;> simp [*]
  · simp only [streamB, tellB]
    rcases word w with rfl | rfl | rfl | rfl | rfl | rfl | rfl | ⟨h1, h2, h3, h4, h5, h6, h7⟩ <;> simp [szOf] at h <;> simp [*]
  · simp only [streamB, tellB]
    rcases word w with rfl | rfl | rfl | rfl | rfl | rfl | rfl | ⟨h1, h2, h3, h4, h5, h6, h7⟩ <;> simp [szOf] at h <;> simp [*]
  · simp only [streamB, tellB]
    rcases word w with rfl | rfl | rfl | rfl | rfl | rfl | rfl | ⟨h1, h2, h3, h4, h5, h6, h7⟩ <;> simp [szOf] at h <;> simp [*]
  · exact streamB_long h4
theorem streamB_nn {w : Str} {n a : D} {r : List D} (h : nameB a = false) : streamB (.str w :: n :: a :: r) = false ∧ tellB (.str w :: n :: a :: r) = false := by
  rcases shape r with rfl | ⟨b, rfl⟩ | ⟨b, c, rfl⟩ | ⟨b, c, d, rfl⟩ | h4
  · simp [streamB, tellB, h]
  · simp [streamB, tellB, h]
  · simp [streamB, tellB, h]
  · simp [streamB, tellB, h]
  · exact streamB_long h4
theorem lst_fin {k : Nat} {l : List D} {os : Os} {d : D} {z1 z2 : List Ent} (h1 : execB (T.cf k) (ir_law_is_step.take 3) ⟨[.val (.tup l) false, .no], os⟩ = .ok .next ⟨z1, os⟩) (h2 : execB (T.cf k) (ir_law_is_step.drop 3) ⟨z1, os⟩ = .ok (.ret d false) ⟨z2, os⟩) : call T (k + 1) ix_law_is_step [.tup l] os = .ok (d, false) os := by
  rw [cl_law_is_step rfl]
  have := b_split 3 h1 h2
  show outF (execB (T.cf k) ir_law_is_step ⟨[.val (.tup l) false, .no], os⟩) = _
  rw [this]; rfl
theorem lst_fin0 {k : Nat} {l : List D} {os : Os} {d : D} (h1 : ∃ z, execB (T.cf k) (ir_law_is_step.take 3) ⟨[.val (.tup l) false, .no], os⟩ = .ok (.ret d false) ⟨z, os⟩) : call T (k + 1) ix_law_is_step [.tup l] os = .ok (d, false) os := by
  obtain ⟨z, h1⟩ := h1
  rw [cl_law_is_step rfl]
  have := b_stop 3 h1
  show outF (execB (T.cf k) ir_law_is_step ⟨[.val (.tup l) false, .no], os⟩) = _
  rw [this]; rfl
theorem call_lstep {k : Nat} {l : List D} {os : Os} (h : ∀ x ∈ l, Th x) : call T (k + 2) ix_law_is_step [.tup l] os = .ok (.bl (stepB (.tup l)), false) os := by
  match l, h with
  | [], _ => rw [cl_law_is_step rfl]; simp [ir_law_is_step, stepB, isD]
  | [a], _ => rw [cl_law_is_step rfl]; simp [ir_law_is_step, stepB, isD]
  | [a, b], h =>
    have : stepB (.tup [a, b]) = false := by cases a <;> simp [stepB, streamB, tellB]
    rw [this, cl_law_is_step rfl]
    simp [ir_law_is_step, isD]
  | a0 :: b0 :: a :: r, h =>
    have c0 := call_lname (k := k) (os := os) (h b0 (by simp))
    have ca := call_lname (k := k) (os := os) (h a (by simp))
    have n3' : ¬ (a0 :: b0 :: a :: r).length < 3 := by simp
    have n3 : ¬ ((a0 :: b0 :: a :: r).length : Int) < 3 := by simp; omega
    have hd : (∀ z, isiZ [.str] z a0 = .ok (.bl false, false) z) → stepB (.tup (a0 :: b0 :: a :: r)) = false → call T (k + 2) ix_law_is_step [.tup (a0 :: b0 :: a :: r)] os = .ok (.bl (stepB (.tup (a0 :: b0 :: a :: r))), false) os := fun hi hst => by
      rw [hst]
      exact lst_fin0 (lst_head hi at0 at1 n3 n3' c0)
    cases h a0 (by simp) with
    | int _ => exact hd (fun z => by simp [isD]) rfl
    | non => exact hd (fun z => by simp [isD]) rfl
    | bl _ => exact hd (fun z => by simp [isD]) rfl
    | tup _ _ => exact hd (fun z => by simp [isD]) rfl
    | lst _ => exact hd (fun z => by simp [isD]) rfl
    | dct _ => exact hd (fun z => by simp [isi_dct, isD]) rfl
    | str w hw =>
      have hr : ∀ x ∈ r, Th x := fun x hx => h x (by simp [hx])
      have ll : ((D.str w :: b0 :: a :: r).length : Int) = (r.length : Int) + 3 := by simp; omega
      have no : nameB b0 = false ∨ ¬ szOf w = ((D.str w :: b0 :: a :: r).length : Int) ∨ nameB a = false → call T (k + 2) ix_law_is_step [.tup (.str w :: b0 :: a :: r)] os = .ok (.bl (stepB (.tup (.str w :: b0 :: a :: r))), false) os := fun q => by
        have hst : stepB (.tup (.str w :: b0 :: a :: r)) = false := by
          simp only [stepB]
          rcases q with q | q | q
          · rw [q]; rfl
          · rw [ll] at q
            rw [(streamB_sz q).1, (streamB_sz q).2]; simp
          · rw [(streamB_nn q).1, (streamB_nn q).2]; simp
        rw [hst]
        exact lst_fin0 (lst_no at0 at1 at2 n3 n3' c0 ca q)
      by_cases q1 : nameB b0 = true
      · by_cases q2 : szOf w = ((D.str w :: b0 :: a :: r).length : Int)
        · by_cases q3 : nameB a = true
          · rw [q1] at c0
            rw [q3] at ca
            have ok := lst_ok (k := k) at0 at1 at2 n3 n3' c0 ca q2
            rw [ll] at q2
            simp only [stepB, q1, Bool.true_and]
            rcases word_sz q2 (by omega) with ⟨n, rfl⟩ | ⟨n, rfl⟩ | ⟨n, hw5⟩ | ⟨n, rfl⟩
            · have : r = [] := List.eq_nil_of_length_eq_zero (by omega)
              subst this
              have e := lst_fin ok lst_take
              rw [e]; simp [streamB, q3]
            · obtain ⟨b, rfl⟩ : ∃ b, r = [b] := List.length_eq_one_iff.mp (by omega)
              have e := lst_fin ok (lst_both (call_lname (k := k) (os := os) (hr b (by simp))))
              rw [e]; simp [streamB, tellB, q3]
            · obtain ⟨b, c, rfl⟩ : ∃ b c, r = [b, c] := len2 (by omega)
              have hb := hr b (by simp)
              have hc := hr c (by simp)
              rcases hw5 with rfl | rfl | rfl | rfl
              · have e := lst_fin ok (lst_only hb hc)
                rw [e]; simp [streamB, tellB, q3]
              · have e := lst_fin ok (lst_turn hb hc)
                rw [e]; simp [streamB, tellB, q3]
              · have e := lst_fin ok (lst_join (call_lname (k := k) (os := os) hb) hc)
                rw [e]; simp [streamB, tellB, q3]
              · have e := lst_fin ok (lst_gap hb hc)
                rw [e]; simp [streamB, tellB, q3]
            · obtain ⟨b, c, d, rfl⟩ : ∃ b c d, r = [b, c, d] := len3 (by omega)
              have e := lst_fin ok (lst_each (hr b (by simp)) (hr c (by simp)) (hr d (by simp)))
              rw [e]; simp [streamB, tellB, q3]
          · exact no (.inr (.inr (by simpa using q3)))
        · exact no (.inr (.inl q2))
      · exact no (.inl (by simpa using q1))
theorem call_lstepO {k : Nat} {d : D} {os : Os} (h : Obs d) : call T (k + 2) ix_law_is_step [d] os = .ok (.bl (stepB d), false) os := by
  rcases h with ⟨l, rfl, hl⟩ | rfl | ⟨l, rfl⟩
  · exact call_lstep hl
  · simp [cl_law_is_step, ir_law_is_step, isD, stepB]
  · simp [cl_law_is_step, ir_law_is_step, isD, stepB]
end
end Vi

namespace Vi
open PySem L2
noncomputable section
open Classical
theorem cell_law {k n : Nat} {ns : List Int} {os : Os} : call T (k + 1) ix_law_at [.lst (nums ns), .int n] os = .ok (.int (ns.getD n 0), false) os := by
  have ln : (((nums ns).length : Nat) : Int) = (ns.length : Int) := by simp [nums]
  by_cases h : n < ns.length
  · have hx : atI (nums ns) ((n : Nat) : Int) = some (.int (ns.getD n 0)) := by
      rw [atI_nat (by simpa [nums] using h)]; simp [nums, h]
    have h' : (n : Int) < (ns.length : Int) := by omega
    rw [cl_law_at rfl]
    generalize ns.getD n 0 = v at *
    generalize nums ns = NS at *
    generalize (ns.length : Int) = LN at *
    simp [ir_law_at, ln, h', hx]
  · have h' : ¬ (n : Int) < (ns.length : Int) := by omega
    have e : ns.getD n 0 = 0 := by rw [List.getD_eq_getElem?_getD, List.getElem?_eq_none (by omega)]; rfl
    rw [cl_law_at rfl, e]
    generalize nums ns = NS at *
    generalize (ns.length : Int) = LN at *
    simp [ir_law_at, ln, h']

theorem big_addS {z w : Int} (h : Builtin.Int.intBits z ≤ 1048576) (hw : w.natAbs < 2 ^ 100) : Big (z + w) := by
  have hb : z.natAbs.log2 ≤ 1048576 := by
    unfold Builtin.Int.intBits at h
    split at h
    · rename_i q
      have : z = 0 := by simpa using q
      subst this
      decide
    · omega
  have h1 : (z + w).natAbs ≤ z.natAbs + w.natAbs := Int.natAbs_add_le z w
  have h2 : (z.natAbs + w.natAbs + 1).log2 < z.natAbs.log2 + 102 := by
    refine (Nat.log2_lt (by omega)).mpr ?_
    have a : z.natAbs < 2 ^ (z.natAbs.log2 + 1) := Nat.lt_log2_self
    generalize z.natAbs.log2 = L at *
    have b : 2 ^ (L + 102) = 2 ^ (L + 101) * 2 := Nat.pow_succ ..
    have c : 2 ^ (L + 1) ≤ 2 ^ (L + 101) := Nat.pow_le_pow_right (by decide) (by omega)
    have d : 2 ^ 100 ≤ 2 ^ (L + 101) := Nat.pow_le_pow_right (by decide) (by omega)
    have e : 2 ^ (L + 1) < 2 ^ (L + 101) := Nat.pow_lt_pow_right (by decide) (by omega)
    generalize 2 ^ (L + 101) = X at *
    generalize 2 ^ (L + 102) = Y at *
    generalize 2 ^ (L + 1) = Z at *
    omega
  unfold Big
  have := log2_mono (Nat.le_succ_of_le h1)
  simp only [Nat.succ_eq_add_one] at this
  omega
/-! what the program asks of a step -/
theorem call_feeders {k : Nat} {s : Pst} {os : Os} : call T (k + 1) ix_feeders [stD s] os = .ok (.lst (s.fd.map D.str), true) os := by
  rw [cl_feeders rfl]
  cases s <;> simp [ir_feeders, stD, Pst.fd, at0, at2, at3]
theorem call_nameof {k : Nat} {s : Pst} {os : Os} : call T (k + 1) ix_name_of [stD s] os = .ok (.str s.nm, false) os := by
  rw [cl_name_of rfl]
  cases s <;> simp [ir_name_of, stD, Pst.nm, at1]
theorem call_isteller {k : Nat} {s : Pst} {os : Os} : call T (k + 1) ix_is_teller [stD s] os = .ok (.bl s.tel, false) os := by
  rw [cl_is_teller rfl]
  cases s <;> simp [ir_is_teller, stD, Pst.tel, at0]
def stL : Pst → List D
  | .take n k => [.str S_take, .str n, .str k]
  | .only n a lo hi => [.str S_only, .str n, .str a, .int lo, .int hi]
  | .turn n a t m => [.str S_turn, .str n, .str a, .int t, .int m]
  | .both n a b => [.str S_both, .str n, .str a, .str b]
  | .join n a b w => [.str S_join, .str n, .str a, .str b, .int w]
  | .each n a y z s => [.str S_each, .str n, .str a, .str y, .int z, .int s]
  | .gap n a y m => [.str S_gap, .str n, .str a, .str y, .int m]
theorem stD_L (s : Pst) : stD s = .tup (stL s) := by cases s <;> rfl
theorem nam_len {s : Str} (h : Nam s) : s.length ≤ 12 := (name_lets h).2.2
def Pst.good (s : Pst) : Prop := Nam s.nm ∧ (∀ a ∈ s.fd, Nam a) ∧ s.rng

theorem tal_nam {y : Str} (h : TalS y) : y.length ≤ 1000 := by
  rcases h with rfl | rfl | rfl | rfl <;> decide +kernel
theorem stL_th {s : Pst} (g : s.good) : (∀ x ∈ stL s, Th x) ∧ 3 ≤ (stL s).length ∧ (stL s).length ≤ 6 := by
  obtain ⟨g1, g2, g3⟩ := g
  have w : ∀ y : Str, y.length ≤ 1000 → Th (.str y) := fun y h => .str y h
  have n1 : ∀ y : Str, Nam y → Th (.str y) := fun y h => .str y (by have := nam_len h; omega)
  have ws : ∀ y ∈ [S_take, S_only, S_turn, S_both, S_join, S_each, S_gap], y.length ≤ 1000 := by decide +kernel
  cases s with
  | take n k => exact ⟨fun x hx => by
      simp only [stL, List.mem_cons, List.not_mem_nil, or_false] at hx
      rcases hx with rfl | rfl | rfl
      · exact w _ (ws _ (by simp))
      · exact n1 _ g1
      · exact n1 _ g3, by simp [stL], by simp [stL]⟩
  | only n a lo hi => exact ⟨fun x hx => by
      simp only [stL, List.mem_cons, List.not_mem_nil, or_false] at hx
      rcases hx with rfl | rfl | rfl | rfl | rfl
      · exact w _ (ws _ (by simp))
      · exact n1 _ g1
      · exact n1 _ (g2 a (by simp [Pst.fd]))
      · exact .int _
      · exact .int _, by simp [stL], by simp [stL]⟩
  | turn n a lo hi => exact ⟨fun x hx => by
      simp only [stL, List.mem_cons, List.not_mem_nil, or_false] at hx
      rcases hx with rfl | rfl | rfl | rfl | rfl
      · exact w _ (ws _ (by simp))
      · exact n1 _ g1
      · exact n1 _ (g2 a (by simp [Pst.fd]))
      · exact .int _
      · exact .int _, by simp [stL], by simp [stL]⟩
  | both n a b => exact ⟨fun x hx => by
      simp only [stL, List.mem_cons, List.not_mem_nil, or_false] at hx
      rcases hx with rfl | rfl | rfl | rfl
      · exact w _ (ws _ (by simp))
      · exact n1 _ g1
      · exact n1 _ (g2 a (by simp [Pst.fd]))
      · exact n1 _ (g2 b (by simp [Pst.fd])), by simp [stL], by simp [stL]⟩
  | join n a b v => exact ⟨fun x hx => by
      simp only [stL, List.mem_cons, List.not_mem_nil, or_false] at hx
      rcases hx with rfl | rfl | rfl | rfl | rfl
      · exact w _ (ws _ (by simp))
      · exact n1 _ g1
      · exact n1 _ (g2 a (by simp [Pst.fd]))
      · exact n1 _ (g2 b (by simp [Pst.fd]))
      · exact .int _, by simp [stL], by simp [stL]⟩
  | each n a y z v => exact ⟨fun x hx => by
      simp only [stL, List.mem_cons, List.not_mem_nil, or_false] at hx
      rcases hx with rfl | rfl | rfl | rfl | rfl | rfl
      · exact w _ (ws _ (by simp))
      · exact n1 _ g1
      · exact n1 _ (g2 a (by simp [Pst.fd]))
      · exact w _ (tal_nam g3.1)
      · exact .int _
      · exact .int _, by simp [stL], by simp [stL]⟩
  | gap n a y m => exact ⟨fun x hx => by
      simp only [stL, List.mem_cons, List.not_mem_nil, or_false] at hx
      rcases hx with rfl | rfl | rfl | rfl | rfl
      · exact w _ (ws _ (by simp))
      · exact n1 _ g1
      · exact n1 _ (g2 a (by simp [Pst.fd]))
      · exact w _ (tal_nam g3.1)
      · exact .int _, by simp [stL], by simp [stL]⟩
theorem tal_B {y : Str} (h : TalS y) : tallyB (.str y) = true := by
  rcases h with rfl | rfl | rfl | rfl <;> simp [tallyB]
theorem good_step {s : Pst} (g : s.good) : stepB (stD s) = true := by
  obtain ⟨g1, g2, g3⟩ := g
  cases s with
  | take n k => simp only [stD, stepB, streamB, tellB]; rw [show nameB (.str n) = true from g1, show nameB (.str k) = true from g3]; simp
  | only n a lo hi =>
    have a1 := g2 a (by simp [Pst.fd])
    simp only [stD, stepB, streamB, tellB, rangeB, amongB]
    obtain ⟨q1, q2, q3⟩ := g3
    have q4 : lo ≤ 1000000000 := by omega
    have q5 : -1000000000 ≤ hi := by omega
    rw [show nameB (.str n) = true from g1, show nameB (.str a) = true from a1]
    simp [q1, q2, q3, q4, q5]
  | turn n a t m =>
    have a1 := g2 a (by simp [Pst.fd])
    simp only [stD, stepB, streamB, tellB, turnB, amongB]
    obtain ⟨q1, q2, q3, q4⟩ := g3
    rw [show nameB (.str n) = true from g1, show nameB (.str a) = true from a1]
    simp [q1, q2, q3, q4]
  | both n a b =>
    simp only [stD, stepB, streamB, tellB]
    rw [show nameB (.str n) = true from g1, show nameB (.str a) = true from g2 a (by simp [Pst.fd]), show nameB (.str b) = true from g2 b (by simp [Pst.fd])]
    simp
  | join n a b v =>
    simp only [stD, stepB, streamB, tellB, amongB]
    obtain ⟨q1, q2⟩ := g3
    rw [show nameB (.str n) = true from g1, show nameB (.str a) = true from g2 a (by simp [Pst.fd]), show nameB (.str b) = true from g2 b (by simp [Pst.fd])]
    simp [q1, q2]
  | each n a y z v =>
    simp only [stD, stepB, streamB, tellB, windowB, amongB]
    obtain ⟨q1, q2, q3, q4, q5⟩ := g3
    have q6 : 1 ≤ z := by omega
    rw [show nameB (.str n) = true from g1, show nameB (.str a) = true from g2 a (by simp [Pst.fd]), tal_B q1]
    simp [q2, q3, q4, q5, q6]
  | gap n a y m =>
    simp only [stD, stepB, streamB, tellB, amongB]
    obtain ⟨q1, q2, q3⟩ := g3
    rw [show nameB (.str n) = true from g1, show nameB (.str a) = true from g2 a (by simp [Pst.fd]), tal_B q1]
    simp [q2, q3]
/-! plans that are drawn -/
def lookW (W : List (Str × Int)) (n : Str) : Int := match W.find? (fun p => decide (p.1 = n)) with
  | some p => p.2
  | none => 0
def WD (W : List (Str × Int)) : List (D × D) := W.map fun p => (.str p.1, .int p.2)
def widS (W : List (Str × Int)) : Pst → Int
  | .take .. => 1
  | .both _ a b | .join _ a b _ => lookW W a + lookW W b
  | .only _ a .. | .turn _ a .. | .each _ a .. | .gap _ a .. => lookW W a
def stepW (W : List (Str × Int)) (s : Pst) : List (Str × Int) := if s.tel = true then W else W ++ [(s.nm, widS W s)]
def PlanOK : List (Str × Int) → List Pst → Prop
  | _, [] => True
  | W, s :: r => s.good ∧ (∀ a ∈ s.fd, a ∈ W.map (·.1)) ∧ widS W s ≤ 32 ∧ PlanOK (stepW W s) r
def endW (W : List (Str × Int)) (P : List Pst) : List (Str × Int) := P.foldl stepW W
theorem PlanOK.snoc {s : Pst} : ∀ {P : List Pst} {W : List (Str × Int)}, PlanOK W P → s.good → (∀ a ∈ s.fd, a ∈ (endW W P).map (·.1)) → widS (endW W P) s ≤ 32 → PlanOK W (P ++ [s])
  | [], W, _, g, f, w => ⟨g, f, w, trivial⟩
  | p :: P, W, h, g, f, w => ⟨h.1, h.2.1, h.2.2.1, h.2.2.2.snoc g f w⟩
theorem endW_snoc {W : List (Str × Int)} {P : List Pst} {s : Pst} : endW W (P ++ [s]) = stepW (endW W P) s := by simp [endW]
theorem eqs (a b : Str) : eqD (.str a) (.str b) = decide (a = b) := by simp [eqD]
theorem WD_key (W : List (Str × Int)) : (WD W).all (fun p => keyOk p.1) = true := List.all_eq_true.mpr fun d hd => by
  obtain ⟨r, _, rfl⟩ := List.mem_map.mp hd; rfl
theorem find_W (a : Str) (W : List (Str × Int)) : (WD W).find? (fun p => eqD p.1 (.str a)) = (W.find? fun p => decide (p.1 = a)).map fun p => (D.str p.1, D.int p.2) := by
  have e : ((fun p : D × D => eqD p.1 (.str a)) ∘ fun p : Str × Int => (D.str p.1, D.int p.2)) = fun p => decide (p.1 = a) := by
    funext p
    exact eqs p.1 a
  unfold WD
  rw [List.find?_map, e]
theorem get_W {W : List (Str × Int)} {a : Str} (h : a ∈ W.map (·.1)) : getD (WD W) (.str a) = some (.int (lookW W a)) := by
  have hc : (keyOk (.str a) && (WD W).all fun p => keyOk p.1) = true := by rw [WD_key]; rfl
  unfold getD lookW
  rw [if_pos hc, find_W]
  obtain ⟨p, hp, rfl⟩ := List.mem_map.mp h
  cases q : W.find? (fun r => decide (r.1 = p.1)) with
  | none =>
    have := List.find?_eq_none.mp q p hp
    simp at this
  | some r => rfl
theorem put_W {W : List (Str × Int)} {n : Str} {v : Int} (h : n ∉ W.map (·.1)) (hl : W.length < 1000) : putKO (.str n) (.int v) (WD W) = some (WD (W ++ [(n, v)])) := by
  have hc : (keyOk (.str n) && (WD W).all fun p => keyOk p.1) = true := by rw [WD_key]; rfl
  unfold putKO
  rw [if_pos ⟨hc, by simp only [WD, List.length_map]; unfold sizeLine; omega⟩]
  have : (WD W).any (fun p => eqD p.1 (.str n)) = false := by
    rw [List.any_eq_false]
    intro d hd
    obtain ⟨r, hr, rfl⟩ := List.mem_map.mp hd
    simp only [eqs, decide_eq_true_eq]
    exact fun q => h (by rw [← q]; exact List.mem_map_of_mem (f := (·.1)) hr)
  unfold putD
  rw [this, if_neg (by simp)]
  unfold WD
  rw [List.map_append]; rfl
theorem f_listW {os : Os} {W : List (Str × Int)} : fnD .list os [.dct (WD W)] = some (.lst ((W.map (·.1)).map D.str), true) := by
  have : keysO os (.dct (WD W)) = some ((W.map (·.1)).map D.str) := by
    have e : keysO os (.dct (WD W)) = if ((WD W).all fun p => keyOk p.1) = true then some ((WD W).map (·.1)) else none := rfl
    rw [e, if_pos (WD_key W)]
    simp [WD]
  simp only [fnD, this]
theorem y_dct {os : Os} {kvs : List (D × D)} {i : D} : ixD os (.dct kvs) i = getD kvs i := rfl
theorem call_wide {k : Nat} {s : Pst} {W : List (Str × Int)} {os : Os} (h : ∀ a ∈ s.fd, a ∈ W.map (·.1)) : call T (k + 1) ix_law_wide [stD s, .dct (WD W)] os = .ok (.int (widS W s), false) os := by
  rw [cl_law_wide rfl]
  cases s with
  | take n kd => simp [ir_law_wide, stD, at0, widS]
  | both n a b =>
    have e1 := get_W (h a (by simp [Pst.fd]))
    have e2 := get_W (h b (by simp [Pst.fd]))
    generalize WD W = WW at *
    simp [ir_law_wide, stD, at0, at2, at3, widS, y_dct, e1, e2]
  | join n a b w =>
    have e1 := get_W (h a (by simp [Pst.fd]))
    have e2 := get_W (h b (by simp [Pst.fd]))
    generalize WD W = WW at *
    simp [ir_law_wide, stD, at0, at2, at3, widS, y_dct, e1, e2]
  | only n a lo hi =>
    have e1 := get_W (h a (by simp [Pst.fd]))
    generalize WD W = WW at *
    simp [ir_law_wide, stD, at0, at2, widS, y_dct, e1]
  | turn n a lo hi =>
    have e1 := get_W (h a (by simp [Pst.fd]))
    generalize WD W = WW at *
    simp [ir_law_wide, stD, at0, at2, widS, y_dct, e1]
  | each n a y z v =>
    have e1 := get_W (h a (by simp [Pst.fd]))
    generalize WD W = WW at *
    simp [ir_law_wide, stD, at0, at2, widS, y_dct, e1]
  | gap n a y m =>
    have e1 := get_W (h a (by simp [Pst.fd]))
    generalize WD W = WW at *
    simp [ir_law_wide, stD, at0, at2, widS, y_dct, e1]
/-! names -/
def W13 : List Str := [S_take, S_only, S_turn, S_both, S_join, S_each, S_gap, S_count, S_sum, S_least, S_greatest, S_late, S_end]
def wordAt (i : Int) : Str := W13.getD i.toNat S_take
theorem wordAt_ix {i : Int} (h0 : 0 ≤ i) (h1 : i < 13) : atI (W13.map D.str) i = some (.str (wordAt i)) := by
  obtain ⟨j, rfl⟩ : ∃ j : Nat, i = j := ⟨i.toNat, by omega⟩
  have hj : j < W13.length := by show j < 13; omega
  rw [atI_nat (by simpa using hj)]
  simp [wordAt, hj]
theorem wordAt_inj {i j : Int} (h0 : 0 ≤ i) (h1 : i < 13) (h2 : 0 ≤ j) (h3 : j < 13) (h : wordAt i = wordAt j) : i = j := by
  have nd : ∀ a < 13, ∀ b < 13, W13.getD a S_take = W13.getD b S_take → a = b := by decide +kernel
  have := nd i.toNat (by omega) j.toNat (by omega) h
  omega
theorem wordAt_nam {i : Int} (h0 : 0 ≤ i) (h1 : i < 13) : Nam (wordAt i) := by
  have nd : ∀ a < 13, (∀ c ∈ (W13.getD a S_take).cps.toList, 97 ≤ c ∧ c ≤ 122) ∧ 1 ≤ (W13.getD a S_take).length ∧ (W13.getD a S_take).length ≤ 12 := by decide +kernel
  obtain ⟨a, b, c⟩ := nd i.toNat (by omega)
  exact lets_name a b c
def stepName (b j : Int) (sg : Str) : Str := if b % 9 = 4 ∧ j < 13 then wordAt ((j + b / 9) % 13) else calledS b j sg
theorem call_stepname {k : Nat} {b j : Int} {sg : Str} {os : Os} (hk : 0 ≤ j ∧ j ≤ 100000) (h0 : 1 ≤ sg.length) (h : sg.length < 13) : call T (k + 2) ix_law_step_name [.int b, .int j, .str sg] os = .ok (.str (stepName b j sg), false) os := by
  have ca := call_called (k := k) (c := b) (kk := j) (sg := sg) (os := os) hk h0 h
  have wx := wordAt_ix (i := (j + b / 9) % 13) (by omega) (by omega)
  simp only [W13, List.map_cons, List.map_nil] at wx
  rw [cl_law_step_name rfl]
  unfold stepName
  generalize calledS b j sg = C at *
  generalize wordAt ((j + b / 9) % 13) = Y at *
  by_cases q : b % 9 = 4
  · by_cases q2 : j < 13
    · rw [if_pos ⟨q, q2⟩]; simp [ir_law_step_name, q, q2, wx]
    · rw [if_neg (by simp [q2])]; simp [ir_law_step_name, q, q2, ca]
  · rw [if_neg (by simp [q])]; simp [ir_law_step_name, q, ca]
def sg2 (a b : Int) : Str := (⟨#[letC a]⟩ : Str) ++ ⟨#[letC b]⟩
theorem sg2_len (a b : Int) : (sg2 a b).length = 2 := rfl
theorem sg2_lets {a b : Int} (h0 : 0 ≤ a) (h1 : a < 26) (h2 : 0 ≤ b) (h3 : b < 26) : Lets (sg2 a b) := by
  have l1 := letC_in h0 h1
  have l2 := letC_in h2 h3
  refine lets_app (fun c hc => ?_) (fun c hc => ?_)
  · have : c = letC a := by simpa using hc
    rw [this]; exact l1
  · have : c = letC b := by simpa using hc
    rw [this]; exact l2
theorem sg2_inj {a b c d : Int} (h : sg2 a b = sg2 c d) (ha : 0 ≤ a) (hb : 0 ≤ b) (hc : 0 ≤ c) (hd : 0 ≤ d) : a = c ∧ b = d := by
  have e : ∀ a b, (sg2 a b).cps.toList = [letC a, letC b] := fun a b => rfl
  have := congrArg (fun s : Str => s.cps.toList) h
  simp only [e, List.cons.injEq, and_true] at this
  unfold letC at this
  omega
def planNm (b most : Int) (j : Int) : Str := if most = 12 then stepName b j (sg2 0 j) else calledS b j (sg2 (j / 26) (j % 26))
theorem planNm_nam {b most j : Int} (h0 : 0 ≤ j) (h1 : j < 30) (hm : most = 12 → j < 13) : Nam (planNm b most j) := by
  unfold planNm stepName
  split
  · rename_i q
    have := hm q
    split
    · exact wordAt_nam (by omega) (by omega)
    · exact called_name (sg2_lets (by omega) (by omega) (by omega) (by omega)) (by rw [sg2_len]; omega) (by rw [sg2_len]; omega)
  · exact called_name (sg2_lets (by omega) (by omega) (by omega) (by omega)) (by rw [sg2_len]; omega) (by rw [sg2_len]; omega)
theorem planNm_inj {b most i j : Int} (h0 : 0 ≤ i) (h1 : i < 30) (h2 : 0 ≤ j) (h3 : j < 30) (hi : most = 12 → i < 13) (hj : most = 12 → j < 13) (h : planNm b most i = planNm b most j) : i = j := by
  unfold planNm stepName at h
  split at h
  · rename_i q
    have := hi q
    have := hj q
    by_cases q2 : b % 9 = 4
    · rw [if_pos ⟨q2, by omega⟩, if_pos ⟨q2, by omega⟩] at h
      have := wordAt_inj (by omega) (by omega) (by omega) (by omega) h
      omega
    · rw [if_neg (by simp [q2]), if_neg (by simp [q2])] at h
      have := called_inj (by rw [sg2_len, sg2_len]) (by rw [sg2_len]; omega) h
      exact (sg2_inj this (by omega) h0 (by omega) h2).2
  · have := called_inj (by rw [sg2_len, sg2_len]) (by rw [sg2_len]; omega) h
    have := sg2_inj this (by omega) (by omega) (by omega) (by omega)
    omega
/-! the walk -/
abbrev plE (NS : List D) (first most b : Int) (P W : D) (e7 e8 e9 e10 e11 : Ent) : List Ent := [.val (.lst NS) false, .val (.int first) false, .val (.int most) false, .val (.int b) false, .val (.str S_abcdefghijklmnopqrstuvwx_c3fc) false, .val P true, .val W true, e7, e8, e9, e10, e11]
def mnop (i : Int) : Str := ⟨#[109 + i.toNat]⟩
theorem mnop_ix {os : Os} {i : Int} (h0 : 0 ≤ i) (h1 : i < 4) : ixD os (.str S_mnop) (.int i) = some (.str (mnop i)) := by
  have e : S_mnop.cps.toList = [109, 110, 111, 112] := by decide +kernel
  have l : S_mnop.length ≤ sizeLine := by decide +kernel
  simp only [ixD]
  rw [if_pos l, e]
  have : i = 0 ∨ i = 1 ∨ i = 2 ∨ i = 3 := by omega
  rcases this with rfl | rfl | rfl | rfl
  · rw [at0]; rfl
  · rw [at1]; rfl
  · rw [at2]; rfl
  · rw [at3]; rfl
theorem mnop_ok {i : Int} (h0 : 0 ≤ i) (h1 : i < 4) : Lets (mnop i) ∧ (mnop i).length = 1 := by
  refine ⟨fun c hc => ?_, rfl⟩
  have : c = 109 + i.toNat := by simpa [mnop] using hc
  omega
theorem plan_turn {k i first : Nat} {ns : List Int} {most b : Int} {P : List Pst} {e8 e9 e10 e11 : Ent} {os : Os} (hb : ∀ z ∈ ns, Builtin.Int.intBits z ≤ 1048576) (hi : i < 30) (hm : most = 12 → i < 13) (hP : P.length = i) (hW : (endW [] P).length ≤ i) (hn : planNm b most i ∉ (endW [] P).map (·.1)) (hnn : ∀ n ∈ (endW [] P).map (·.1), Nam n) (hmost : most = 12 ∨ most = 30) :
    ∃ (s : Pst) (f8 f9 f10 f11 : Ent), s.good ∧ s.nm = planNm b most i ∧ (∀ a ∈ s.fd, a ∈ (endW [] P).map (·.1)) ∧ widS (endW [] P) s ≤ 32 ∧
    execB (T.cf (k + 2)) ir_law_plan_b1 ⟨plE (nums ns) first most b (.lst (P.map stD)) (.dct (WD (endW [] P))) (.val (.int i) false) e8 e9 e10 e11, os⟩ = .ok .next ⟨plE (nums ns) first most b (.lst ((P ++ [s]).map stD)) (.dct (WD (endW [] (P ++ [s])))) (.val (.int i) false) f8 f9 f10 f11, os⟩ := by
  have c1 := cell_law (k := k + 1) (n := first + 2 + i % 9) (ns := ns) (os := os)
  have ci : ((first + 2 + i % 9 : Nat) : Int) = (first : Int) + 2 + (i : Int) % 9 := by omega
  rw [ci] at c1
  have m7 : mulOk 7919 ((i : Int) / 9) = true := mulOk_s (by omega) (by omega) (by omega) (by omega)
  obtain ⟨c, hc⟩ : ∃ c, c = ns.getD (first + 2 + i % 9) 0 + 7919 * ((i : Int) / 9) + i := ⟨_, rfl⟩
  have bg : Big c := by
    have := big_addS (w := 7919 * ((i : Int) / 9) + i) (bits_getD hb (first + 2 + i % 9)) (by omega)
    rw [hc, Int.add_assoc]; exact this
  generalize ns.getD (first + 2 + i % 9) 0 = v0 at *
  have lx1 := let_ix' (os := os) (j := (i : Int) / 26) (by omega) (by omega)
  have lx2 := let_ix' (os := os) (j := (i : Int) % 26) (by omega) (by omega)
  have lx3 := let_ix' (os := os) (j := 0) (by omega) (by omega)
  have lx4 : most = 12 → ixD os (.str S_abcdefghijklmnopqrstuvwx_c3fc) (.int (i : Int)) = some (.str ⟨#[letC i]⟩) := fun q => let_ix' (os := os) (j := (i : Int)) (by omega) (by have := hm q; omega)
  have ad : ∀ x y : Int, binD .add os (.str ⟨#[letC x]⟩) (.str ⟨#[letC y]⟩) = some (.str (sg2 x y), false) := fun x y => n_adds (show (1 : Nat) + 1 ≤ 16777216 by decide)
  have cn1 := call_called (k := k + 1) (c := b) (kk := i) (sg := sg2 ((i : Int) / 26) ((i : Int) % 26)) (os := os) (by omega) (by rw [sg2_len]; omega) (by rw [sg2_len]; omega)
  have cn2 := call_stepname (k := k) (b := b) (j := i) (sg := sg2 0 (i : Int)) (os := os) (by omega) (by rw [sg2_len]; omega) (by rw [sg2_len]; omega)
  obtain ⟨q, hq, q0, q1⟩ : ∃ q, q = c / 3200 % 4 ∧ 0 ≤ q ∧ q < 4 := ⟨_, rfl, by omega, by omega⟩
  obtain ⟨mo, ml⟩ := mnop_ok q0 q1
  have mx := mnop_ix (os := os) q0 q1
  have ck := call_called (k := k + 1) (c := b / 7) (kk := q) (sg := mnop q) (os := os) (by omega) (by omega) (by omega)
  have kn : Nam (calledS (b / 7) q (mnop q)) := called_name mo (by omega) (by omega)
  have nn := planNm_nam (b := b) (most := most) (j := i) (by omega) (by omega) (fun h => by have := hm h; omega)
  obtain ⟨s0, r1, r2, r3, cs⟩ := call_step (k := k) (c := c) (nm := planNm b most i) (kd := calledS (b / 7) q (mnop q)) (ss := (endW [] P).map (·.1)) (os := os) bg kn
  have cw0 := call_wide (k := k + 1) (s := s0) (W := endW [] P) (os := os) r3
  have fl := f_listW (os := os) (W := endW [] P)
  generalize calledS (b / 7) q (mnop q) = KD at *
  obtain ⟨nm, hnm⟩ : ∃ nm, nm = planNm b most i := ⟨_, rfl⟩
  -- the name
  have x1 : execB (T.cf (k + 2)) (ir_law_plan_b1.take 3) ⟨plE (nums ns) first most b (.lst (P.map stD)) (.dct (WD (endW [] P))) (.val (.int i) false) e8 e9 e10 e11, os⟩ = .ok .next ⟨plE (nums ns) first most b (.lst (P.map stD)) (.dct (WD (endW [] P))) (.val (.int i) false) (.val (.int c) false) (.val (.str nm) false) e10 e11, os⟩ := by
    unfold plE
    generalize nums ns = NS at *
    generalize P.map stD = PD at *
    generalize WD (endW [] P) = WW at *
    show execB _ (_ :: _) _ = _
    refine (b_set (v := (.int c, false)) (z1 := ⟨_, os⟩) (by simp [c1, m7, ← hc]; rfl)).trans ?_
    refine (b_set (v := (.str (calledS b i (sg2 ((i : Int) / 26) ((i : Int) % 26))), false)) (z1 := ⟨_, os⟩) (by simp [lx1, lx2, ad, cn1]; rfl)).trans ?_
    rw [hnm]
    unfold planNm
    by_cases q : most = 12
    · rw [if_pos q]
      have lx4 := lx4 q
      refine (b_then (z1 := ⟨_, os⟩) (by simp [q]) (by simp [lx3, lx4, ad, cn2]; rfl)).trans ?_
      simp
    · rw [if_neg q]
      refine (b_skip (by simp [q])).trans ?_
      simp
  have x2 : execB (T.cf (k + 2)) ((ir_law_plan_b1.drop 3).take 2) ⟨plE (nums ns) first most b (.lst (P.map stD)) (.dct (WD (endW [] P))) (.val (.int i) false) (.val (.int c) false) (.val (.str nm) false) e10 e11, os⟩ = .ok .next ⟨plE (nums ns) first most b (.lst (P.map stD)) (.dct (WD (endW [] P))) (.val (.int i) false) (.val (.int c) false) (.val (.str nm) false) (.val (.str KD) false) (.val (stD s0) false), os⟩ := by
    rw [← hnm] at cs
    unfold plE
    generalize nums ns = NS at *
    generalize P.map stD = PD at *
    generalize ((endW [] P).map (·.1)).map D.str = KS at *
    generalize WD (endW [] P) = WW at *
    generalize stD s0 = S0 at *
    show execB _ (_ :: _) _ = _
    refine (b_set (v := (.str KD, false)) (z1 := ⟨_, os⟩) (by simp [← hq, mx, ck]; rfl)).trans ?_
    refine (b_set (v := (S0, false)) (z1 := ⟨_, os⟩) (by simp [fl, cs]; rfl)).trans ?_
    simp
  -- whether it is too wide
  obtain ⟨s, s1, s2, s3, s4, x3⟩ : ∃ s : Pst, s.good ∧ s.nm = planNm b most i ∧ (∀ a ∈ s.fd, a ∈ (endW [] P).map (·.1)) ∧ widS (endW [] P) s ≤ 32 ∧
      execB (T.cf (k + 2)) (((ir_law_plan_b1.drop 3).drop 2).take 1) ⟨plE (nums ns) first most b (.lst (P.map stD)) (.dct (WD (endW [] P))) (.val (.int i) false) (.val (.int c) false) (.val (.str nm) false) (.val (.str KD) false) (.val (stD s0) false), os⟩ = .ok .next ⟨plE (nums ns) first most b (.lst (P.map stD)) (.dct (WD (endW [] P))) (.val (.int i) false) (.val (.int c) false) (.val (.str nm) false) (.val (.str KD) false) (.val (stD s) false), os⟩ := by
    have nc : (stD s0).cell = false := by cases s0 <;> rfl
    by_cases w : widS (endW [] P) s0 ≤ 32
    · refine ⟨s0, ⟨by rw [r2]; exact nn, fun a ha => hnn a (r3 a ha), r1⟩, r2, r3, w, ?_⟩
      have w' : ¬ 32 < widS (endW [] P) s0 := by omega
      unfold plE
      generalize nums ns = NS at *
      generalize P.map stD = PD at *
      generalize WD (endW [] P) = WW at *
      generalize widS (endW [] P) s0 = WS at *
      generalize stD s0 = S0 at *
      show execB _ (_ :: _) _ = _
      refine (b_skip (by simp [cw0, w', nc])).trans ?_
      simp
    · refine ⟨.take nm KD, ⟨by rw [hnm]; exact nn, fun a ha => by simp [Pst.fd] at ha, kn⟩, hnm, fun a ha => by simp [Pst.fd] at ha, by simp [widS], ?_⟩
      have w' : 32 < widS (endW [] P) s0 := by omega
      unfold plE
      generalize nums ns = NS at *
      generalize P.map stD = PD at *
      generalize WD (endW [] P) = WW at *
      generalize widS (endW [] P) s0 = WS at *
      generalize stD s0 = S0 at *
      show execB _ (_ :: _) _ = _
      refine (b_then (z1 := ⟨_, os⟩) (by simp [cw0, w', nc]) (by simp; rfl)).trans ?_
      simp [stD]
  refine ⟨s, .val (.int c) false, .val (.str nm) false, .val (.str KD) false, .val (stD s) false, s1, s2, s3, s4, b_split 3 x1 (b_split 2 x2 (b_split 1 x3 ?_))⟩
  have cw := call_wide (k := k + 1) (s := s) (W := endW [] P) (os := os) s3
  have ma : ∀ os, mutL "append" (P.map stD) [stD s] os = some (P.map stD ++ [stD s]) := fun os => mut_app (by rw [List.length_map]; omega)
  have pw := put_W (W := endW [] P) (n := nm) (v := widS (endW [] P) s) (by rw [hnm]; exact hn) (by omega)
  have e1 : (P ++ [s]).map stD = P.map stD ++ [stD s] := by simp
  have e2 : endW [] (P ++ [s]) = if s.tel = true then endW [] P else endW [] P ++ [(nm, widS (endW [] P) s)] := by rw [endW_snoc]; unfold stepW; rw [s2, hnm]
  have nc : (stD s).cell = false := by cases s <;> rfl
  have h0 : ∃ w : Str, ixD os (stD s) (.int 0) = some (.str w) ∧ (decide (w = S_each) || decide (w = S_gap)) = s.tel := by
    cases s <;> exact ⟨_, at0, by simp [Pst.tel]⟩
  obtain ⟨w, hw, hw2⟩ := h0
  rw [e1, e2]
  clear x1 x2 x3 cw0 cs
  unfold plE
  generalize nums ns = NS at *
  generalize P.map stD = PD at *
  generalize endW [] P = WW at *
  generalize widS WW s = WS at *
  generalize stD s = SD at *
  show execB _ (_ :: _) _ = _
  refine (b_go (z1 := ⟨_, os⟩) (by simp [ma, nc]; rfl)).trans ?_
  cases ht : s.tel with
  | true =>
    rw [ht] at hw2
    rw [if_pos rfl]
    refine (b_skip ?_).trans ?_
    · by_cases q1 : w = S_each
      · simp [hw, q1]
      · have q2 : w = S_gap := by simpa [q1] using hw2
        simp [hw, q2]
    · simp
  | false =>
    rw [ht] at hw2
    rw [if_neg (by simp)]
    have q1 : ¬ w = S_each := fun q => by simp [q] at hw2
    have q2 : ¬ w = S_gap := fun q => by simp [q] at hw2
    refine (b_then (z1 := ⟨_, os⟩) (by simp [hw, q1, q2]) (by simp [cw, pw, nc]; rfl)).trans ?_
    simp
theorem call_plan {k first : Nat} {ns : List Int} {most : Int} {os : Os} (hb : ∀ z ∈ ns, Builtin.Int.intBits z ≤ 1048576) (hmost : most = 12 ∨ most = 30) :
    ∃ P : List Pst, P.length ≤ 30 ∧ PlanOK [] P ∧ (P.map Pst.nm).Nodup ∧ call T (k + 3) ix_law_plan [.lst (nums ns), .int first, .int most] os = .ok (.lst (P.map stD), true) os := by
  have c0 := cell_law (k := k + 1) (n := first) (ns := ns) (os := os)
  have c1 := cell_law (k := k + 1) (n := first + 1) (ns := ns) (os := os)
  have ci : ((first + 1 : Nat) : Int) = (first : Int) + 1 := by omega
  rw [ci] at c1
  generalize ns.getD (first + 1) 0 = v1 at *
  generalize ns.getD first 0 = b at *
  obtain ⟨n, hn, n0, n1⟩ : ∃ n : Nat, (n : Int) = v1 % (most + 1) ∧ n ≤ 30 ∧ (most = 12 → n ≤ 12) := by
    have p := Int.emod_nonneg v1 (show most + 1 ≠ 0 by omega)
    have q := Int.emod_lt_of_pos v1 (show 0 < most + 1 by omega)
    exact ⟨(v1 % (most + 1)).toNat, by omega, by omega, fun h => by omega⟩
  have bm := bin_mod (os := os) (i := v1) (j := most + 1) (by omega)
  rw [← hn] at bm
  have rg : srcOf os .range [.int (n : Int)] = some ((List.range n).map fun i : Nat => D.int i) := by
    rw [src_range1 (by omega) (by omega)]; simp
  obtain ⟨env2, lp, P, e7, e8, e9, e10, e11, p1, p2, p3, p4, p5, rfl⟩ := forL_inv (tg := .nm 7) (bod := execB (T.cf (k + 2)) ir_law_plan_b1) (os := os) (fun i env => ∃ (P : List Pst) (e7 e8 e9 e10 e11 : Ent), P.length = i ∧ PlanOK [] P ∧ (∀ (j : Nat) (h : j < P.length), P[j].nm = planNm b most j) ∧ (endW [] P).length ≤ i ∧ (∀ a ∈ (endW [] P).map (·.1), ∃ j : Nat, j < i ∧ a = planNm b most j) ∧ env = plE (nums ns) first most b (.lst (P.map stD)) (.dct (WD (endW [] P))) e7 e8 e9 e10 e11) ((List.range n).map fun i : Nat => D.int i) (plE (nums ns) first most b (.lst []) (.dct []) .no .no .no .no .no) ⟨[], .no, .no, .no, .no, .no, rfl, trivial, fun j h => by simp at h, by simp [endW], fun a h => by simp [endW] at h, rfl⟩ (by
    rintro i hi env ⟨P, e7, e8, e9, e10, e11, p1, p2, p3, p4, p5, rfl⟩
    have hi' : i < n := by simpa using hi
    have i12 : most = 12 → i < 13 := fun h => by have := n1 h; omega
    obtain ⟨s, f8, f9, f10, f11, s1, s2, s3, s4, ex⟩ := plan_turn (k := k) (i := i) (first := first) (ns := ns) (most := most) (b := b) (P := P) (e8 := e8) (e9 := e9) (e10 := e10) (e11 := e11) (os := os) hb (by omega) i12 p1 p4 (fun q => by
      obtain ⟨j, j1, j2⟩ := p5 _ q
      have := planNm_inj (by omega) (by omega) (by omega) (by omega) (fun h => by have := i12 h; omega) (fun h => by have := i12 h; omega) j2
      omega) (fun a ha => by
      obtain ⟨j, j1, rfl⟩ := p5 _ ha
      exact planNm_nam (by omega) (by omega) (fun h => by have := i12 h; omega)) hmost
    have e1 : ((List.range n).map fun i : Nat => D.int i)[i] = .int (i : Int) := by simp
    rw [e1, setT_n]
    refine ⟨_, _, _, rfl, ex, by simp, P ++ [s], _, _, _, _, _, by simp [p1], p2.snoc s1 s3 s4, fun j h => ?_, ?_, fun a ha => ?_, rfl⟩
    · by_cases q : j < P.length
      · rw [List.getElem_append_left q]; exact p3 j q
      · have : j = i := by simp at h; omega
        subst this
        rw [List.getElem_append_right (by omega)]
        simpa using s2
    · rw [endW_snoc]; unfold stepW
      split
      · omega
      · simp; omega
    · rw [endW_snoc] at ha
      unfold stepW at ha
      split at ha
      · obtain ⟨j, j1, j2⟩ := p5 a ha
        exact ⟨j, by omega, j2⟩
      · rw [List.map_append] at ha
        rcases List.mem_append.mp ha with q | q
        · obtain ⟨j, j1, j2⟩ := p5 a q
          exact ⟨j, by omega, j2⟩
        · exact ⟨i, by omega, by simpa [s2] using q⟩)
  have pl : P.length = n := by simpa using p1
  refine ⟨P, by omega, p2, ?_, ?_⟩
  · refine List.pairwise_iff_getElem.mpr fun i j hi hj hij q => ?_
    simp only [List.length_map] at hi hj
    simp only [List.getElem_map] at q
    rw [p3, p3] at q
    have := planNm_inj (by omega) (by omega) (by omega) (by omega) (fun h => by have := n1 h; omega) (fun h => by have := n1 h; omega) q
    omega
  · rw [cl_law_plan rfl]
    unfold plE at lp
    generalize nums ns = NS at *
    generalize P.map stD = PD at *
    generalize WD (endW [] P) = WW at *
    generalize (List.range n).map (fun i : Nat => D.int i) = RG at *
    simp [ir_law_plan, c0, c1, bm, rg, lp]

end
end Vi

namespace Vi
open PySem L2
noncomputable section
open Classical
/-! the things that a plan may hold -/
inductive Prt : D → Prop
  | s (t : Str) (h : t.length ≤ 1000) : Prt (.str t)
  | i (n : Int) : Prt (.int n)
inductive Thg : D → Prop
  | emp : Thg (.tup [])
  | stp (w n : Str) (r : List D) (hw : w.length ≤ 1000) (hn : n.length ≤ 1000) (hr : ∀ x ∈ r, Prt x) : Thg (.tup (.str w :: .str n :: r))
  | non : Thg .non
  | lst : Thg (.lst [.str S_take, .str S_new, .str S_k])
  | int : Thg (.int 5)
theorem prt_th {d : D} (h : Prt d) : Th d := by
  cases h
  · exact .str _ ‹_›
  · exact .int _
theorem prt_dep {d : D} (h : Prt d) : dep d = some 0 := by cases h <;> rfl
theorem thg_dep {d : D} (h : Thg d) : ∃ m, dep d = some m ∧ m ≤ 1 := by
  cases h with
  | emp => exact ⟨1, rfl, by omega⟩
  | stp w n r hw hn hr =>
    refine dep_tupN (n := 0) fun d hd => ?_
    rcases List.mem_cons.mp hd with rfl | hd
    · exact ⟨0, rfl, by omega⟩
    · rcases List.mem_cons.mp hd with rfl | hd
      · exact ⟨0, rfl, by omega⟩
      · exact ⟨0, prt_dep (hr d hd), by omega⟩
  | non => exact ⟨0, rfl, by omega⟩
  | lst => exact ⟨1, rfl, by omega⟩
  | int => exact ⟨0, rfl, by omega⟩
theorem thg_istep {k : Nat} {d : D} {os : Os} (h : Thg d) : call T (k + 6) ix_is_step [d] os = .ok (.bl (stepB d), false) os := by
  cases h with
  | emp => exact call_istep fun x hx => by cases hx
  | stp w n r hw hn hr =>
    refine call_istep fun x hx => ?_
    rcases List.mem_cons.mp hx with rfl | hx
    · exact .str _ hw
    · rcases List.mem_cons.mp hx with rfl | hx
      · exact .str _ hn
      · exact prt_th (hr x hx)
  | non => exact call_istepO (.inr (.inl rfl))
  | lst => exact call_istepO (.inr (.inr ⟨_, rfl⟩))
  | int => simp [cl_is_step, ir_is_step, isD, stepB]
theorem thg_lstep {k : Nat} {d : D} {os : Os} (h : Thg d) : call T (k + 2) ix_law_is_step [d] os = .ok (.bl (stepB d), false) os := by
  cases h with
  | emp => exact call_lstep fun x hx => by cases hx
  | stp w n r hw hn hr =>
    refine call_lstep fun x hx => ?_
    rcases List.mem_cons.mp hx with rfl | hx
    · exact .str _ hw
    · rcases List.mem_cons.mp hx with rfl | hx
      · exact .str _ hn
      · exact prt_th (hr x hx)
  | non => exact call_lstepO (.inr (.inl rfl))
  | lst => exact call_lstepO (.inr (.inr ⟨_, rfl⟩))
  | int => simp [cl_law_is_step, ir_law_is_step, isD, stepB]
/-! a step that is one -/
theorem nameB_str {d : D} (h : nameB d = true) : ∃ s, d = .str s ∧ Nam s := by
  cases d <;> simp only [nameB, Bool.false_eq_true] at h
  exact ⟨_, rfl, h⟩
theorem amongB_int {a b : Int} {d : D} (h : amongB a b d = true) : ∃ i, d = .int i ∧ a ≤ i ∧ i ≤ b := by
  cases d <;> simp only [amongB, Bool.false_eq_true] at h
  rename_i i
  simp only [Bool.and_eq_true, decide_eq_true_eq] at h
  exact ⟨i, rfl, h.1, h.2⟩
theorem tallyB_str {d : D} (h : tallyB d = true) : ∃ s, d = .str s ∧ TalS s := by
  cases d <;> simp only [tallyB, Bool.false_eq_true] at h
  rename_i s
  simp only [Bool.or_eq_true, decide_eq_true_eq] at h
  refine ⟨s, rfl, ?_⟩
  unfold TalS
  rcases h with h | h | h | h <;> simp [h]
theorem step_pst {d : D} (h : stepB d = true) : ∃ s : Pst, d = stD s ∧ s.good := by
  unfold stepB at h
  split at h
  · rename_i w n r
    rw [Bool.and_eq_true, Bool.or_eq_true] at h
    obtain ⟨hn, h⟩ := h
    obtain ⟨n, rfl, nn⟩ := nameB_str hn
    revert h; match r with
    | [] => intro h; simp [streamB, tellB] at h
    | [a] =>
      intro h
      simp only [streamB, tellB, Bool.and_eq_true, decide_eq_true_eq, Bool.false_eq_true, or_false] at h
      obtain ⟨rfl, h⟩ := h
      obtain ⟨a, rfl, na⟩ := nameB_str h
      exact ⟨.take n a, rfl, nn, fun x hx => by simp [Pst.fd] at hx, na⟩
    | [a, b] =>
      intro h
      simp only [streamB, tellB, Bool.and_eq_true, decide_eq_true_eq, Bool.false_eq_true, or_false] at h
      obtain ⟨rfl, ha, hb⟩ := h
      obtain ⟨a, rfl, na⟩ := nameB_str ha
      obtain ⟨b, rfl, nb⟩ := nameB_str hb
      exact ⟨.both n a b, rfl, nn, fun x hx => by simp [Pst.fd] at hx; rcases hx with rfl | rfl <;> assumption, trivial⟩
    | [a, b, c] =>
      intro h
      simp only [streamB, tellB, Bool.and_eq_true, decide_eq_true_eq] at h
      rcases h with h | h
      · split at h
        · rename_i e; subst e
          rw [Bool.and_eq_true] at h
          obtain ⟨ha, h⟩ := h
          obtain ⟨a, rfl, na⟩ := nameB_str ha
          unfold rangeB at h
          split at h
          · rename_i i j
            simp only [Bool.and_eq_true, decide_eq_true_eq, amongB] at h
            exact ⟨.only n a i j, rfl, nn, fun x hx => by simp [Pst.fd] at hx; subst hx; exact na, ⟨by omega, by omega, by omega⟩⟩
          · cases h
        · split at h
          · rename_i e; subst e
            rw [Bool.and_eq_true] at h
            obtain ⟨ha, h⟩ := h
            obtain ⟨a, rfl, na⟩ := nameB_str ha
            unfold turnB at h
            rw [Bool.and_eq_true] at h
            obtain ⟨i, rfl, i1, i2⟩ := amongB_int h.1
            obtain ⟨j, rfl, j1, j2⟩ := amongB_int h.2
            exact ⟨.turn n a i j, rfl, nn, fun x hx => by simp [Pst.fd] at hx; subst hx; exact na, ⟨i1, i2, j1, j2⟩⟩
          · split at h
            · rename_i e; subst e
              simp only [Bool.and_eq_true] at h
              obtain ⟨a, rfl, na⟩ := nameB_str h.1
              obtain ⟨b, rfl, nb⟩ := nameB_str h.2.1
              obtain ⟨j, rfl, j1, j2⟩ := amongB_int h.2.2
              exact ⟨.join n a b j, rfl, nn, fun x hx => by simp [Pst.fd] at hx; rcases hx with rfl | rfl <;> assumption, ⟨j1, j2⟩⟩
            · cases h
      · obtain ⟨rfl, ha, hb, hc⟩ := h
        obtain ⟨a, rfl, na⟩ := nameB_str ha
        obtain ⟨y, rfl, ty⟩ := tallyB_str hb
        obtain ⟨j, rfl, j1, j2⟩ := amongB_int hc
        exact ⟨.gap n a y j, rfl, nn, fun x hx => by simp [Pst.fd] at hx; subst hx; exact na, ⟨ty, j1, j2⟩⟩
    | [a, b, c, e] =>
      intro h
      simp only [streamB, tellB, Bool.and_eq_true, decide_eq_true_eq, Bool.false_eq_true, false_or] at h
      obtain ⟨rfl, ha, hb, hc⟩ := h
      obtain ⟨a, rfl, na⟩ := nameB_str ha
      obtain ⟨y, rfl, ty⟩ := tallyB_str hb
      unfold windowB at hc
      split at hc
      · rename_i z s
        simp only [Bool.and_eq_true, decide_eq_true_eq, amongB] at hc
        exact ⟨.each n a y z s, rfl, nn, fun x hx => by simp [Pst.fd] at hx; subst hx; exact na, ⟨ty, by omega, by omega, by omega, by omega⟩⟩
      · cases hc
    | a :: b :: c :: e :: f :: r => intro h; simp [streamB, tellB] at h
  · cases h
/-! the names and the widths -/
def ND (N : List Str) : List (D × D) := N.map fun n => (.str n, .bl true)
theorem ND_key (N : List Str) : (ND N).all (fun p => keyOk p.1) = true := List.all_eq_true.mpr fun d hd => by
  obtain ⟨r, _, rfl⟩ := List.mem_map.mp hd; rfl
theorem has_ND (a : Str) (N : List Str) : hasKey (.str a) (ND N) = decide (a ∈ N) := by
  rw [Bool.eq_iff_iff]
  unfold hasKey ND
  rw [List.any_eq_true]
  simp only [decide_eq_true_eq]
  constructor
  · rintro ⟨p, hp, e⟩
    obtain ⟨n, hn, rfl⟩ := List.mem_map.mp hp
    rw [eqs, decide_eq_true_eq] at e
    rw [← e]; exact hn
  · intro h
    exact ⟨_, List.mem_map_of_mem h, by rw [eqs]; simp⟩
theorem has_WD (a : Str) (W : List (Str × Int)) : hasKey (.str a) (WD W) = decide (a ∈ W.map (·.1)) := by
  rw [Bool.eq_iff_iff]
  unfold hasKey WD
  rw [List.any_eq_true]
  simp only [decide_eq_true_eq]
  constructor
  · rintro ⟨p, hp, e⟩
    obtain ⟨n, hn, rfl⟩ := List.mem_map.mp hp
    rw [eqs, decide_eq_true_eq] at e
    rw [← e]; exact List.mem_map_of_mem hn
  · intro h
    obtain ⟨n, hn, rfl⟩ := List.mem_map.mp h
    exact ⟨_, List.mem_map_of_mem hn, by rw [eqs]; simp⟩
theorem q_inN {os : Os} {a : Str} {N : List Str} : cmpD .isin os (.str a) (.dct (ND N)) = some (decide (a ∈ N)) := by
  show (if (keyOk (.str a) && (ND N).all fun p => keyOk p.1) = true then some (hasKey (.str a) (ND N)) else none) = _
  rw [ND_key, has_ND]; rfl
theorem q_inW {os : Os} {a : Str} {W : List (Str × Int)} : cmpD .isin os (.str a) (.dct (WD W)) = some (decide (a ∈ W.map (·.1))) := by
  show (if (keyOk (.str a) && (WD W).all fun p => keyOk p.1) = true then some (hasKey (.str a) (WD W)) else none) = _
  rw [WD_key, has_WD]; rfl
theorem q_ninW {os : Os} {a : Str} {W : List (Str × Int)} : cmpD .notin os (.str a) (.dct (WD W)) = some (!decide (a ∈ W.map (·.1))) := by
  show ((if (keyOk (.str a) && (WD W).all fun p => keyOk p.1) = true then some (hasKey (.str a) (WD W)) else none).map fun b => !b) = _
  rw [WD_key, has_WD]; rfl
theorem flat_strs (N : List Str) : (N.map D.str).all D.flat = true := List.all_eq_true.mpr fun d hd => by
  obtain ⟨r, _, rfl⟩ := List.mem_map.mp hd; rfl
theorem q_inL {os : Os} {a : Str} {N : List Str} : cmpD .isin os (.str a) (.lst (N.map D.str)) = some (decide (a ∈ N)) := by
  show (if ((D.str a).flat && (N.map D.str).all D.flat) = true then some ((N.map D.str).any fun d => eqD d (.str a)) else inX (.str a) (N.map D.str)) = _
  rw [flat_strs, show ((D.str a).flat && true) = true from rfl, if_pos rfl]
  congr 1
  rw [Bool.eq_iff_iff, List.any_eq_true, decide_eq_true_eq]
  constructor
  · rintro ⟨p, hp, e⟩
    obtain ⟨n, hn, rfl⟩ := List.mem_map.mp hp
    rw [eqs, decide_eq_true_eq] at e
    rw [← e]; exact hn
  · intro h
    exact ⟨_, List.mem_map_of_mem h, by rw [eqs]; simp⟩
theorem put_N {N : List Str} {n : Str} (h : n ∉ N) (hl : N.length < 1000) : putKO (.str n) (.bl true) (ND N) = some (ND (N ++ [n])) := by
  have hc : (keyOk (.str n) && (ND N).all fun p => keyOk p.1) = true := by rw [ND_key]; rfl
  unfold putKO
  rw [if_pos ⟨hc, by simp only [ND, List.length_map]; unfold sizeLine; omega⟩]
  have : (ND N).any (fun p => eqD p.1 (.str n)) = false := by
    have := has_ND n N
    unfold hasKey at this
    rw [this]; simp [h]
  unfold putD
  rw [this, if_neg (by simp)]
  unfold ND
  rw [List.map_append]; rfl
/-! fed, and how wide -/
theorem call_isfed {k : Nat} {s : Pst} {W : List (Str × Int)} {os : Os} : call T (k + 2) ix_is_fed [stD s, .dct (WD W)] os = .ok (.bl (decide (∀ a ∈ s.fd, a ∈ W.map (·.1))), false) os := by
  rw [cl_is_fed rfl]
  have cf := call_feeders (k := k) (s := s) (os := os)
  have nc : (stD s).cell = false := by cases s <;> rfl
  have hq := fun a => q_ninW (os := os) (a := a) (W := W)
  generalize W.map (·.1) = KS at *
  have hfd : s.fd = [] ∨ (∃ a, s.fd = [a]) ∨ ∃ a b, s.fd = [a, b] := by cases s <;> simp [Pst.fd]
  have sv : ∀ l : List D, srcOf os .val [.lst l] = some l := fun l => rfl
  generalize stD s = SD at *
  generalize WD W = WW at *
  rcases hfd with h | ⟨a, h⟩ | ⟨a, b, h⟩ <;> rw [h] at cf ⊢
  · simp [ir_is_fed, cf, nc]
  · by_cases q : a ∈ KS
    · simp [ir_is_fed, ir_is_fed_b1, cf, nc, hq, q, goL]
    · simp [ir_is_fed, ir_is_fed_b1, cf, nc, hq, q, goL]
  · by_cases q : a ∈ KS
    · by_cases q2 : b ∈ KS
      · simp [ir_is_fed, ir_is_fed_b1, cf, nc, hq, q, q2, goL]
      · simp [ir_is_fed, ir_is_fed_b1, cf, nc, hq, q, q2, goL]
    · simp [ir_is_fed, ir_is_fed_b1, cf, nc, hq, q, goL]
theorem call_width {k : Nat} {s : Pst} {W : List (Str × Int)} {os : Os} (h : ∀ a ∈ s.fd, a ∈ W.map (·.1)) : call T (k + 2) ix_width [stD s, .dct (WD W)] os = .ok (.int (widS W s), false) os := by
  rw [cl_width rfl]
  have cf := call_feeders (k := k) (s := s) (os := os)
  have nc : (stD s).cell = false := by cases s <;> rfl
  have lp : compK (.nm 2) .val yesZ (evalE (T.cf (k + 1)) ir_width_e1) [.lst (s.fd.map D.str)] ⟨[.val (stD s) false, .bor (.dct (WD W)), .no], os⟩ = .ok (.lst ((s.fd.map (lookW W)).map D.int), true) ⟨[.val (stD s) false, .bor (.dct (WD W)), .no], os⟩ := by
    rw [compK_tyA (L := s.fd) (en := D.str) (E1 := fun a => [.val (stD s) false, .bor (.dct (WD W)), .val (.str a) false]) (f := fun a => .int (lookW W a)) rfl (by cases s <;> simp [Pst.fd]) (fun x _ => rfl) (fun x _ => rfl) ?_]
    · rw [List.map_map]; rfl
    · intro a ha
      have := get_W (h a ha)
      generalize WD W = WW at *
      exact ⟨false, by simp [ir_width_e1, y_dct, this]⟩
  have fs := f_sum (os := os) (l := s.fd.map (lookW W))
  have e : (s.fd.map (lookW W)).sum = widS W s ∨ ∃ n k, s = .take n k := by cases s <;> simp [Pst.fd, widS]
  have h0 : ∃ w : Str, ixD os (stD s) (.int 0) = some (.str w) ∧ (w = S_take ↔ ∃ n k, s = .take n k) := by
    cases s <;> refine ⟨_, at0, ?_⟩ <;> simp <;> decide +kernel
  obtain ⟨w, hw, hw2⟩ := h0
  by_cases q : w = S_take
  · obtain ⟨n, kk, rfl⟩ := hw2.mp q
    simp [ir_width, stD, at0, widS]
  · have e := e.resolve_right fun z => q (hw2.mpr z)
    rw [e] at fs
    generalize (s.fd.map (lookW W)).map D.int = LL at *
    generalize s.fd.map D.str = FF at *
    generalize stD s = SD at *
    generalize WD W = WW at *
    simp [ir_width, hw, q, cf, nc, lp, fs]
/-! one step looked at -/
def okSt (W : List (Str × Int)) (N : List Str) (s : Pst) : Prop := s.good ∧ s.nm ∉ N ∧ (∀ a ∈ s.fd, a ∈ W.map (·.1)) ∧ widS W s ≤ 32
abbrev ckE (pl : D) (W : List (Str × Int)) (N : List Str) (e3 e4 : Ent) : List Ent := [.val pl false, .val (.dct (WD W)) true, .val (.dct (ND N)) true, e3, e4]
theorem sub_bs : True := trivial
theorem ck_good {k i : Nat} {pl : D} {W : List (Str × Int)} {N : List Str} {s : Pst} {os : Os} (h : okSt W N s) (hT : Thg (stD s)) (hK : s.nm ∉ W.map (·.1)) (hW : W.length < 900) (hN : N.length < 900) :
    execB (T.cf (k + 6)) ir_checked_b1 ⟨ckE pl W N (.val (.int i) false) (.val (stD s) false), os⟩ = .ok .next ⟨ckE pl (stepW W s) (N ++ [s.nm]) (.val (.int i) false) (.val (stD s) false), os⟩ := by
  obtain ⟨g, hn, hf, hw⟩ := h
  have c1 := thg_istep (k := k) (os := os) hT
  rw [good_step g] at c1
  have c2 := call_nameof (k := k + 5) (s := s) (os := os)
  have c3 := call_isfed (k := k + 4) (s := s) (W := W) (os := os)
  rw [decide_eq_true hf] at c3
  have c4 := call_width (k := k + 4) (os := os) hf
  have c5 := call_isteller (k := k + 5) (s := s) (os := os)
  have q1 := q_inN (os := os) (a := s.nm) (N := N)
  rw [decide_eq_false hn] at q1
  have p1 := put_N hn (by omega)
  have p2 := put_W (v := widS W s) hK (by omega)
  have nc : (stD s).cell = false := by cases s <;> rfl
  have hw' : ¬ 32 < widS W s := by omega
  have eW : WD (stepW W s) = if s.tel = true then WD W else WD (W ++ [(s.nm, widS W s)]) := by unfold stepW; split <;> rfl
  unfold ckE
  rw [eW]
  generalize WD (W ++ [(s.nm, widS W s)]) = W2 at *
  generalize WD W = WW at *
  generalize ND (N ++ [s.nm]) = N2 at *
  generalize ND N = NN at *
  generalize widS W s = ws at *
  generalize s.nm = nm at *
  generalize stD s = SD at *
  show execB _ (_ :: _) _ = _
  refine (b_skip (by simp [c1, c2, c3, nc, q1])).trans ?_
  refine (b_go (z1 := ⟨_, os⟩) (by simp [c2, nc, p1]; rfl)).trans ?_
  refine (b_skip (by simp [c4, nc, hw'])).trans ?_
  cases ht : s.tel with
  | true =>
    rw [ht] at c5
    refine (b_skip (by simp [c5, nc])).trans ?_
    simp
  | false =>
    rw [ht] at c5
    refine (b_then (z1 := ⟨_, os⟩) (by simp [c5, nc]) (by simp [c4, c2, nc, p2]; rfl)).trans ?_
    simp
theorem ck_bad {k i : Nat} {pl : D} {W : List (Str × Int)} {N : List Str} {d : D} {os : Os} (hT : Thg d) (h : ∀ s, d = stD s → ¬ okSt W N s) (hN : N.length < 900) :
    ∃ z, execB (T.cf (k + 6)) ir_checked_b1 ⟨ckE pl W N (.val (.int i) false) (.val d false), os⟩ = .exc cx_BadStep (.int i) ⟨z, os⟩ := by
  have c1 := thg_istep (k := k) (os := os) hT
  have lv : 2 ≤ (T.cf (k + 6)).lv := by show 2 ≤ k + 6; omega
  by_cases b : stepB d = true
  · obtain ⟨s, rfl, g⟩ := step_pst b
    have nc : (stD s).cell = false := by cases s <;> rfl
    rw [b] at c1
    have c2 := call_nameof (k := k + 5) (s := s) (os := os)
    have c3 := call_isfed (k := k + 4) (s := s) (W := W) (os := os)
    have q1 := q_inN (os := os) (a := s.nm) (N := N)
    by_cases hn : s.nm ∈ N
    · rw [decide_eq_true hn] at q1
      refine ⟨ckE pl W N (.val (.int i) false) (.val (stD s) false), ?_⟩
      unfold ckE
      generalize WD W = WW at *
      generalize ND N = NN at *
      generalize s.nm = nm at *
      generalize stD s = SD at *
      simp [ir_checked_b1, c1, c2, nc, q1, D.flat, lv]
    · rw [decide_eq_false hn] at q1
      by_cases hf : ∀ a ∈ s.fd, a ∈ W.map (·.1)
      · rw [decide_eq_true hf] at c3
        have c4 := call_width (k := k + 4) (os := os) hf
        have p1 := put_N hn (by omega)
        have hw : 32 < widS W s := by
          rcases Int.lt_or_le 32 (widS W s) with q | q
          · exact q
          · exact absurd ⟨g, hn, hf, q⟩ (h s rfl)
        refine ⟨[.val pl false, .val (.dct (WD W)) true, .val (.dct (ND (N ++ [s.nm]))) true, .val (.int i) false, .val (stD s) false], ?_⟩
        unfold ckE
        generalize WD W = WW at *
        generalize ND (N ++ [s.nm]) = N2 at *
        generalize ND N = NN at *
        generalize widS W s = ws at *
        generalize s.nm = nm at *
        generalize stD s = SD at *
        show execB _ (_ :: _) _ = _
        refine (b_skip (by simp [c1, c2, c3, nc, q1])).trans ?_
        refine (b_go (z1 := ⟨_, os⟩) (by simp [c2, nc, p1]; rfl)).trans ?_
        simp [c4, nc, hw, D.flat, lv]
      · rw [decide_eq_false hf] at c3
        refine ⟨ckE pl W N (.val (.int i) false) (.val (stD s) false), ?_⟩
        unfold ckE
        generalize WD W = WW at *
        generalize ND N = NN at *
        generalize s.nm = nm at *
        generalize stD s = SD at *
        simp [ir_checked_b1, c1, c2, c3, nc, q1, D.flat, lv]
  · have b : stepB d = false := by simpa using b
    rw [b] at c1
    refine ⟨ckE pl W N (.val (.int i) false) (.val d false), ?_⟩
    unfold ckE
    generalize WD W = WW at *
    generalize ND N = NN at *
    simp [ir_checked_b1, c1, D.flat, lv]
end
end Vi

namespace Vi
open PySem L2
noncomputable section
open Classical
/-! one step looked at by the law -/
abbrev lbE (pl : D) (W : List (Str × Int)) (N : List Str) (e3 e4 e5 e6 : Ent) : List Ent := [.val pl false, .val (.dct (WD W)) true, .val (.lst (N.map D.str)) true, e3, e4, e5, e6]
def someL : Pst → List Str
  | .take _ k => [k]
  | s => s.fd
theorem q_in2 {os : Os} {w a b : Str} : cmpD .isin os (.str w) (.tup [.str a, .str b]) = some (decide (a = w) || decide (b = w)) := by
  show (if ((D.str w).flat && [D.str a, .str b].all D.flat) = true then some ([D.str a, .str b].any fun d => eqD d (.str w)) else inX (.str w) [D.str a, .str b]) = _
  rw [show ((D.str w).flat && [D.str a, .str b].all D.flat) = true from rfl, if_pos rfl]
  simp only [List.any_cons, List.any_nil, eqs, Bool.or_false]
theorem cut3 {os : Os} {a b c : D} : slD os (.tup [a, b, c]) (some 2) (some 3) = some (.tup [c], false) := rfl
theorem cut43 {os : Os} {a b c d : D} : slD os (.tup [a, b, c, d]) (some 2) (some 4) = some (.tup [c, d], false) := rfl
theorem cut53 {os : Os} {a b c d e : D} : slD os (.tup [a, b, c, d, e]) (some 2) (some 3) = some (.tup [c], false) := rfl
theorem cut54 {os : Os} {a b c d e : D} : slD os (.tup [a, b, c, d, e]) (some 2) (some 4) = some (.tup [c, d], false) := rfl
theorem cut63 {os : Os} {a b c d e f : D} : slD os (.tup [a, b, c, d, e, f]) (some 2) (some 3) = some (.tup [c], false) := rfl
theorem b_ne (a b : Str) (h : (a == b) = false) : decide (a = b) = false := by
  rw [decide_eq_false_iff_not]; intro e; subst e; simp at h
theorem some_ite {k i : Nat} {pl : D} {W : List (Str × Int)} {N : List Str} {s : Pst} {e5 e6 : Ent} {os : Os} :
    evalE (T.cf k) (.ite (.cmp .isin (.ix (.b 4) (.c (.int 0))) (.tup [.c (.str S_both), .c (.str S_join)])) (.sl (.b 4) [.c (.int 2)] [.c (.int 4)]) (.sl (.b 4) [.c (.int 2)] [.c (.int 3)])) ⟨lbE pl W N (.val (.int i) false) (.val (stD s) false) e5 e6, os⟩ = .ok (.tup ((someL s).map D.str), false) ⟨lbE pl W N (.val (.int i) false) (.val (stD s) false) e5 e6, os⟩ := by
  unfold lbE
  generalize WD W = WW
  generalize N.map D.str = NN
  have f1 : decide (S_both = S_take) = false := by decide +kernel
  have f2 : decide (S_join = S_take) = false := by decide +kernel
  have f3 : decide (S_both = S_only) = false := by decide +kernel
  have f4 : decide (S_join = S_only) = false := by decide +kernel
  have f5 : decide (S_both = S_turn) = false := by decide +kernel
  have f6 : decide (S_join = S_turn) = false := by decide +kernel
  have f7 : decide (S_both = S_each) = false := by decide +kernel
  have f8 : decide (S_join = S_each) = false := by decide +kernel
  have f9 : decide (S_both = S_gap) = false := by decide +kernel
  have f10 : decide (S_join = S_gap) = false := by decide +kernel
  cases s <;> simp only [stD] <;> simp [at0, someL, Pst.fd, q_in2, intO, cut3, cut43, cut53, cut54, cut63, -decide_eq_false_iff_not, -decide_eq_true_eq, f1, f2, f3, f4, f5, f6, f7, f8, f9, f10]
theorem hd_st {os : Os} (s : Pst) : ∃ w : Str, ixD os (stD s) (.int 0) = some (.str w) ∧ (w = S_take ↔ ∃ n k, s = .take n k) ∧ (decide (w = S_each) || decide (w = S_gap)) = s.tel := by
  cases s <;> refine ⟨_, at0, ?_, ?_⟩ <;> first | (simp [Pst.tel]; done) | (simp <;> decide +kernel)
theorem nm_st {os : Os} (s : Pst) : ixD os (stD s) (.int 1) = some (.str s.nm) := by cases s <;> exact at1
theorem bad_comp {k i : Nat} {pl : D} {W : List (Str × Int)} {N : List Str} {d5 : D} {d : D} {l : List Str} {os : Os} (hl : l.length < 1000) (h5 : d5 = .tup (l.map D.str)) :
    compK (.nm 6) .val (evalE (T.cf k) ir_law_bad_c2) (evalE (T.cf k) ir_law_bad_e1) [d5] ⟨lbE pl W N (.val (.int i) false) (.val d false) (.val d5 false) .no, os⟩ = .ok (.lst ((l.filter fun a => !decide (a ∈ W.map (·.1))).map D.str), true) ⟨lbE pl W N (.val (.int i) false) (.val d false) (.val d5 false) .no, os⟩ := by
  subst h5
  rw [compK_ty (L := l) (en := D.str) (E1 := fun a => lbE pl W N (.val (.int i) false) (.val d false) (.val (.tup (l.map D.str)) false) (.val (.str a) false)) (t := fun a => !decide (a ∈ W.map (·.1))) (f := D.str) rfl (by omega) (fun x _ => rfl) (fun x _ => rfl) ?_ ?_]
  · rfl
  · intro a _
    have := q_ninW (os := os) (a := a) (W := W)
    refine ⟨false, ?_⟩
    unfold lbE
    generalize (!decide (a ∈ W.map (·.1))) = B at *
    generalize WD W = WW at *
    generalize N.map D.str = NN at *
    generalize l.map D.str = LL at *
    simp [ir_law_bad_c2, this]
  · intro a _ _
    refine ⟨false, ?_⟩
    unfold lbE
    generalize WD W = WW at *
    generalize N.map D.str = NN at *
    generalize l.map D.str = LL at *
    simp [ir_law_bad_e1]
theorem fed_filter {l : List Str} {W : List (Str × Int)} : (l.filter fun a => !decide (a ∈ W.map (·.1))).isEmpty = decide (∀ a ∈ l, a ∈ W.map (·.1)) := by
  rw [Bool.eq_iff_iff]
  simp [List.isEmpty_iff]
theorem someL_len (s : Pst) : (someL s).length < 1000 := by cases s <;> simp [someL, Pst.fd]
theorem someL_fd {s : Pst} (h : ¬ ∃ n k, s = .take n k) : someL s = s.fd := by
  cases s <;> first | rfl | exact absurd ⟨_, _, rfl⟩ h
theorem lb_good {k i : Nat} {pl : D} {W : List (Str × Int)} {N : List Str} {s : Pst} {e5 : Ent} {os : Os} (h : okSt W N s) (hT : Thg (stD s)) (hK : s.nm ∉ W.map (·.1)) (hW : W.length < 900) (hN : N.length < 900) :
    ∃ f5, execB (T.cf (k + 2)) ir_law_bad_b3 ⟨lbE pl W N (.val (.int i) false) (.val (stD s) false) e5 .no, os⟩ = .ok .next ⟨lbE pl (stepW W s) (N ++ [s.nm]) (.val (.int i) false) (.val (stD s) false) f5 .no, os⟩ := by
  obtain ⟨g, hn, hf, hw⟩ := h
  have c1 := thg_lstep (k := k) (os := os) hT
  rw [good_step g] at c1
  have c4 := call_wide (k := k + 1) (os := os) hf
  have q1 := q_inL (os := os) (a := s.nm) (N := N)
  rw [decide_eq_false hn] at q1
  have p2 := put_W (v := widS W s) hK (by omega)
  have nc : (stD s).cell = false := by cases s <;> rfl
  have hw' : ¬ 32 < widS W s := by omega
  have ma : ∀ os, mutL "append" (N.map D.str) [.str s.nm] os = some (N.map D.str ++ [.str s.nm]) := fun os => mut_app (by rw [List.length_map]; omega)
  have eW : WD (stepW W s) = if s.tel = true then WD W else WD (W ++ [(s.nm, widS W s)]) := by unfold stepW; split <;> rfl
  have eN : (N ++ [s.nm]).map D.str = N.map D.str ++ [.str s.nm] := by simp
  have si := some_ite (k := k + 2) (i := i) (pl := pl) (W := W) (N := N) (s := s) (e5 := e5) (e6 := .no) (os := os)
  have cp := bad_comp (k := k + 2) (i := i) (pl := pl) (W := W) (N := N) (d := stD s) (os := os) (someL_len s) rfl
  obtain ⟨w, i0, i0t, i0l⟩ := hd_st (os := os) s
  have i1 := nm_st (os := os) s
  have fe : w = S_take ∨ ((someL s).filter fun a => !decide (a ∈ W.map (·.1))) = [] := by
    by_cases q : w = S_take
    · exact .inl q
    · refine .inr ?_
      rw [← List.isEmpty_iff, fed_filter, someL_fd (fun z => q (i0t.mpr z)), decide_eq_true hf]
  refine ⟨.val (.tup ((someL s).map D.str)) false, ?_⟩
  unfold lbE at *
  rw [eW, eN]
  generalize WD (W ++ [(s.nm, widS W s)]) = W2 at *
  generalize ((someL s).filter fun a => !decide (a ∈ W.map (·.1))) = FL at *
  generalize WD W = WW at *
  generalize N.map D.str = NN at *
  generalize widS W s = ws at *
  generalize s.nm = nm at *
  generalize (someL s).map D.str = SL at *
  generalize stD s = SD at *
  show execB _ (_ :: _) _ = _
  refine (b_skip (by simp [c1, nc, q1, i1])).trans ?_
  refine (b_set si).trans ?_
  refine (b_skip (z := ⟨[.val pl false, .val (.dct WW) true, .val (.lst NN) true, .val (.int i) false, .val SD false, .val (.tup SL) false, .no], os⟩) ?_).trans ?_
  · rcases fe with rfl | rfl
    · simp [i0]
    · by_cases q : w = S_take
      · simp [i0, q]
      · have qn := q_nesn (os := os) (l := [])
        simp only [List.map_nil] at cp qn
        simp [i0, q, cp, qn]
  refine (b_go (z1 := ⟨_, os⟩) (by simp [i1, ma]; rfl)).trans ?_
  refine (b_skip (by simp [c4, nc, hw'])).trans ?_
  cases ht : s.tel with
  | true =>
    rw [ht] at i0l
    refine (b_skip ?_).trans ?_
    · by_cases q1 : w = S_each
      · simp [i0, q1]
      · have q2 : w = S_gap := by simpa [q1] using i0l
        simp [i0, q2]
    · simp
  | false =>
    rw [ht] at i0l
    have q1 : ¬ w = S_each := fun q => by simp [q] at i0l
    have q2 : ¬ w = S_gap := fun q => by simp [q] at i0l
    refine (b_then (z1 := ⟨_, os⟩) (by simp [i0, q1, q2]) (by simp [c4, i1, nc, p2]; rfl)).trans ?_
    simp
theorem lb_bad {k i : Nat} {pl : D} {W : List (Str × Int)} {N : List Str} {d : D} {e5 : Ent} {os : Os} (hT : Thg d) (h : ∀ s, d = stD s → ¬ okSt W N s) (hN : N.length < 900) :
    ∃ z, execB (T.cf (k + 2)) ir_law_bad_b3 ⟨lbE pl W N (.val (.int i) false) (.val d false) e5 .no, os⟩ = .ok (.ret (.tup [.bl true, .int i]) false) ⟨z, os⟩ := by
  have c1 := thg_lstep (k := k) (os := os) hT
  by_cases b : stepB d = true
  · obtain ⟨s, rfl, g⟩ := step_pst b
    have nc : (stD s).cell = false := by cases s <;> rfl
    rw [b] at c1
    have q1 := q_inL (os := os) (a := s.nm) (N := N)
    have i1 := nm_st (os := os) s
    by_cases hn : s.nm ∈ N
    · rw [decide_eq_true hn] at q1
      refine ⟨lbE pl W N (.val (.int i) false) (.val (stD s) false) e5 .no, ?_⟩
      unfold lbE
      generalize WD W = WW at *
      generalize N.map D.str = NN at *
      generalize s.nm = nm at *
      generalize stD s = SD at *
      show execB _ (_ :: _) _ = _
      exact b_take (by simp [c1, nc, q1, i1]) (by simp)
    · rw [decide_eq_false hn] at q1
      have si := some_ite (k := k + 2) (i := i) (pl := pl) (W := W) (N := N) (s := s) (e5 := e5) (e6 := .no) (os := os)
      have cp := bad_comp (k := k + 2) (i := i) (pl := pl) (W := W) (N := N) (d := stD s) (os := os) (someL_len s) rfl
      obtain ⟨w, i0, i0t, i0l⟩ := hd_st (os := os) s
      by_cases hf : ∀ a ∈ s.fd, a ∈ W.map (·.1)
      · have c4 := call_wide (k := k + 1) (os := os) hf
        have ma : ∀ os, mutL "append" (N.map D.str) [.str s.nm] os = some (N.map D.str ++ [.str s.nm]) := fun os => mut_app (by rw [List.length_map]; omega)
        have hw : 32 < widS W s := by
          rcases Int.lt_or_le 32 (widS W s) with q | q
          · exact q
          · exact absurd ⟨g, hn, hf, q⟩ (h s rfl)
        have fe : w = S_take ∨ ((someL s).filter fun a => !decide (a ∈ W.map (·.1))) = [] := by
          by_cases q : w = S_take
          · exact .inl q
          · refine .inr ?_
            rw [← List.isEmpty_iff, fed_filter, someL_fd (fun z => q (i0t.mpr z)), decide_eq_true hf]
        refine ⟨lbE pl W (N ++ [s.nm]) (.val (.int i) false) (.val (stD s) false) (.val (.tup ((someL s).map D.str)) false) .no, ?_⟩
        have eN : (N ++ [s.nm]).map D.str = N.map D.str ++ [.str s.nm] := by simp
        unfold lbE at *
        rw [eN]
        generalize ((someL s).filter fun a => !decide (a ∈ W.map (·.1))) = FL at *
        generalize WD W = WW at *
        generalize N.map D.str = NN at *
        generalize widS W s = ws at *
        generalize s.nm = nm at *
        generalize (someL s).map D.str = SL at *
        generalize stD s = SD at *
        show execB _ (_ :: _) _ = _
        refine (b_skip (by simp [c1, nc, q1, i1])).trans ?_
        refine (b_set si).trans ?_
        refine (b_skip (z := ⟨[.val pl false, .val (.dct WW) true, .val (.lst NN) true, .val (.int i) false, .val SD false, .val (.tup SL) false, .no], os⟩) ?_).trans ?_
        · rcases fe with rfl | rfl
          · simp [i0]
          · by_cases q : w = S_take
            · simp [i0, q]
            · have qn := q_nesn (os := os) (l := [])
              simp only [List.map_nil] at cp qn
              simp [i0, q, cp, qn]
        refine (b_go (z1 := ⟨_, os⟩) (by simp [i1, ma]; rfl)).trans ?_
        exact b_take (by simp [c4, nc, hw]) (by simp)
      · have q0 : ¬ w = S_take := fun q => by
          obtain ⟨n, kk, rfl⟩ := i0t.mp q
          exact hf fun a ha => by simp [Pst.fd] at ha
        have qn := q_nesn (os := os) (l := (someL s).filter fun a => !decide (a ∈ W.map (·.1)))
        rw [fed_filter, someL_fd (fun z => q0 (i0t.mpr z)), decide_eq_false hf] at qn
        rw [someL_fd (fun z => q0 (i0t.mpr z))] at si cp
        refine ⟨lbE pl W N (.val (.int i) false) (.val (stD s) false) (.val (.tup (s.fd.map D.str)) false) .no, ?_⟩
        unfold lbE at *
        generalize (s.fd.filter fun a => !decide (a ∈ W.map (·.1))).map D.str = FL at *
        generalize WD W = WW at *
        generalize N.map D.str = NN at *
        generalize s.nm = nm at *
        generalize s.fd.map D.str = SL at *
        generalize stD s = SD at *
        show execB _ (_ :: _) _ = _
        refine (b_skip (by simp [c1, nc, q1, i1])).trans ?_
        refine (b_set si).trans ?_
        exact b_take (z := ⟨[.val pl false, .val (.dct WW) true, .val (.lst NN) true, .val (.int i) false, .val SD false, .val (.tup SL) false, .no], os⟩) (by simp [i0, q0, cp, qn]) (by simp)
  · have b : stepB d = false := by simpa using b
    rw [b] at c1
    refine ⟨lbE pl W N (.val (.int i) false) (.val d false) e5 .no, ?_⟩
    unfold lbE
    generalize WD W = WW at *
    generalize N.map D.str = NN at *
    show execB _ (_ :: _) _ = _
    exact b_take (by simp [c1]) (by simp)
end
end Vi

namespace Vi
open PySem L2
noncomputable section
open Classical
/-! the whole plan looked at -/
def enL : Nat → List D → List D
  | _, [] => []
  | i, d :: r => .tup [.int i, d] :: enL (i + 1) r
theorem mapIdx_en : ∀ (ds : List D) (i : Nat), (ds.mapIdx fun j d => D.tup [.int ((i + j : Nat) : Int), d]) = enL i ds
  | [], i => rfl
  | d :: r, i => by
    rw [List.mapIdx_cons, enL, ← mapIdx_en r (i + 1)]
    congr 1
    congr 1
    funext j d
    congr 3
    omega
theorem src_en {os : Os} {ds : List D} : srcOf os .enum [.lst ds] = some (enL 0 ds) := by
  rw [← mapIdx_en ds 0]
  simp only [Nat.zero_add]
  rfl
inductive Bad : Nat → List (Str × Int) → List Str → List D → Option Nat → Prop
  | nil {i W N} : Bad i W N [] none
  | bad {i W N d r} (h : ∀ s, d = stD s → ¬ okSt W N s) : Bad i W N (d :: r) (some i)
  | ok {i W N s r o} (h : okSt W N s) (t : Bad (i + 1) (stepW W s) (N ++ [s.nm]) r o) : Bad i W N (stD s :: r) o
theorem Bad.ex : ∀ (ds : List D) (i : Nat) (W : List (Str × Int)) (N : List Str), ∃ o, Bad i W N ds o
  | [], i, W, N => ⟨none, .nil⟩
  | d :: r, i, W, N => by
    by_cases h : ∃ s, d = stD s ∧ okSt W N s
    · obtain ⟨s, rfl, q⟩ := h
      obtain ⟨o, t⟩ := Bad.ex r (i + 1) (stepW W s) (N ++ [s.nm])
      exact ⟨o, .ok q t⟩
    · exact ⟨some i, .bad fun s e q => h ⟨s, e, q⟩⟩
theorem step_keys {W : List (Str × Int)} {N : List Str} {s : Pst} (h : ∀ a ∈ W.map (·.1), a ∈ N) : ∀ a ∈ (stepW W s).map (·.1), a ∈ N ++ [s.nm] := by
  intro a ha
  unfold stepW at ha
  split at ha
  · exact List.mem_append.mpr (.inl (h a ha))
  · rw [List.map_append] at ha
    rcases List.mem_append.mp ha with q | q
    · exact List.mem_append.mpr (.inl (h a q))
    · exact List.mem_append.mpr (.inr (by simpa using q))
theorem step_len {W : List (Str × Int)} {s : Pst} : (stepW W s).length ≤ W.length + 1 := by
  unfold stepW
  split <;> simp
theorem ck_loop {k : Nat} {pl : D} {os : Os} {i : Nat} {W : List (Str × Int)} {N : List Str} {ds : List D} {o : Option Nat} (h : Bad i W N ds o) : (∀ d ∈ ds, Thg d) → (∀ a ∈ W.map (·.1), a ∈ N) → N.length = i → W.length ≤ i → i + ds.length ≤ 800 → ∀ e3 e4,
    (o = none → ∃ z, forL (.tp [.nm 3, .nm 4]) (execB (T.cf (k + 6)) ir_checked_b1) [] (enL i ds) ⟨ckE pl W N e3 e4, os⟩ = .ok .next ⟨z, os⟩) ∧
    (∀ j, o = some j → ∃ z, forL (.tp [.nm 3, .nm 4]) (execB (T.cf (k + 6)) ir_checked_b1) [] (enL i ds) ⟨ckE pl W N e3 e4, os⟩ = .exc cx_BadStep (.int j) ⟨z, os⟩) := by
  induction h with
  | nil => intro _ _ _ _ _ e3 e4; exact ⟨fun _ => ⟨_, forL_nil⟩, fun j q => (nomatch q)⟩
  | @bad i W N d r h =>
    intro hT hK hN hW hl e3 e4
    refine ⟨fun q => (nomatch q), fun j q => ?_⟩
    cases q
    obtain ⟨z, ex⟩ := ck_bad (k := k) (i := i) (pl := pl) (os := os) (hT d (by simp)) h (by simp at hl; omega)
    refine ⟨z, ?_⟩
    rw [enL, forL_cons (env' := ckE pl W N (.val (.int i) false) (.val d false)) (by simp [ckE]), ex]
    rfl
  | @ok i W N s r o h t ih =>
    intro hT hK hN hW hl e3 e4
    simp only [List.length_cons] at hl
    have nk : s.nm ∉ W.map (·.1) := fun q => h.2.1 (hK _ q)
    have ex := ck_good (k := k) (i := i) (pl := pl) (os := os) h (hT _ (by simp)) nk (by omega) (by omega)
    have hl2 := step_len (W := W) (s := s)
    obtain ⟨a, b⟩ := ih (fun d hd => hT d (by simp [hd])) (step_keys hK) (by simp; omega) (by omega) (by omega) (.val (.int i) false) (.val (stD s) false)
    have e : forL (.tp [.nm 3, .nm 4]) (execB (T.cf (k + 6)) ir_checked_b1) [] (enL i (stD s :: r)) ⟨ckE pl W N e3 e4, os⟩ = forL (.tp [.nm 3, .nm 4]) (execB (T.cf (k + 6)) ir_checked_b1) [] (enL (i + 1) r) ⟨ckE pl (stepW W s) (N ++ [s.nm]) (.val (.int i) false) (.val (stD s) false), os⟩ := by
      rw [enL, forL_cons (env' := ckE pl W N (.val (.int i) false) (.val (stD s) false)) (by simp [ckE]), ex, R.bind_ok]
      rfl
    rw [e]
    exact ⟨a, b⟩
theorem lb_loop {k : Nat} {pl : D} {os : Os} {i : Nat} {W : List (Str × Int)} {N : List Str} {ds : List D} {o : Option Nat} (h : Bad i W N ds o) : (∀ d ∈ ds, Thg d) → (∀ a ∈ W.map (·.1), a ∈ N) → N.length = i → W.length ≤ i → i + ds.length ≤ 800 → ∀ e3 e4 e5,
    (o = none → ∃ z, forL (.tp [.nm 3, .nm 4]) (execB (T.cf (k + 2)) ir_law_bad_b3) [] (enL i ds) ⟨lbE pl W N e3 e4 e5 .no, os⟩ = .ok .next ⟨z, os⟩) ∧
    (∀ j, o = some j → ∃ z, forL (.tp [.nm 3, .nm 4]) (execB (T.cf (k + 2)) ir_law_bad_b3) [] (enL i ds) ⟨lbE pl W N e3 e4 e5 .no, os⟩ = .ok (.ret (.tup [.bl true, .int j]) false) ⟨z, os⟩) := by
  induction h with
  | nil => intro _ _ _ _ _ e3 e4 e5; exact ⟨fun _ => ⟨_, forL_nil⟩, fun j q => (nomatch q)⟩
  | @bad i W N d r h =>
    intro hT hK hN hW hl e3 e4 e5
    refine ⟨fun q => (nomatch q), fun j q => ?_⟩
    cases q
    obtain ⟨z, ex⟩ := lb_bad (k := k) (i := i) (pl := pl) (e5 := e5) (os := os) (hT d (by simp)) h (by simp at hl; omega)
    refine ⟨z, ?_⟩
    rw [enL, forL_cons (env' := lbE pl W N (.val (.int i) false) (.val d false) e5 .no) (by simp [lbE]), ex]
    rfl
  | @ok i W N s r o h t ih =>
    intro hT hK hN hW hl e3 e4 e5
    simp only [List.length_cons] at hl
    have nk : s.nm ∉ W.map (·.1) := fun q => h.2.1 (hK _ q)
    obtain ⟨f5, ex⟩ := lb_good (k := k) (i := i) (pl := pl) (e5 := e5) (os := os) h (hT _ (by simp)) nk (by omega) (by omega)
    have hl2 := step_len (W := W) (s := s)
    obtain ⟨a, b⟩ := ih (fun d hd => hT d (by simp [hd])) (step_keys hK) (by simp; omega) (by omega) (by omega) (.val (.int i) false) (.val (stD s) false) f5
    have e : forL (.tp [.nm 3, .nm 4]) (execB (T.cf (k + 2)) ir_law_bad_b3) [] (enL i (stD s :: r)) ⟨lbE pl W N e3 e4 e5 .no, os⟩ = forL (.tp [.nm 3, .nm 4]) (execB (T.cf (k + 2)) ir_law_bad_b3) [] (enL (i + 1) r) ⟨lbE pl (stepW W s) (N ++ [s.nm]) (.val (.int i) false) (.val (stD s) false) f5 .no, os⟩ := by
      rw [enL, forL_cons (env' := lbE pl W N (.val (.int i) false) (.val (stD s) false) e5 .no) (by simp [lbE]), ex, R.bind_ok]
      rfl
    rw [e]
    exact ⟨a, b⟩
/-- what is said of a thing that may be a plan: the place of the first that is none -/
inductive Said : D → Option (Option Nat) → Prop
  | fine {ds} (hT : ∀ d ∈ ds, Thg d) (hl : ds.length ≤ 30) (h : Bad 0 [] [] ds none) : Said (.lst ds) none
  | bad {ds j} (hT : ∀ d ∈ ds, Thg d) (hl : ds.length ≤ 30) (h : Bad 0 [] [] ds (some j)) : Said (.lst ds) (some (some j))
  | long {ds} (hl : 30 < ds.length) : Said (.lst ds) (some none)
  | tup {ds} : Said (.tup ds) (some none)
  | non : Said .non (some none)
def saidD : Option (Option Nat) → D
  | none => .tup [.bl false, .non]
  | some none => .tup [.bl true, .non]
  | some (some j) => .tup [.bl true, .int j]
def plcD : Option Nat → D
  | none => .non
  | some j => .int j
theorem call_lbad {k : Nat} {d : D} {o : Option (Option Nat)} {os : Os} (h : Said d o) : ∃ fr, call T (k + 3) ix_law_bad [d] os = .ok (saidD o, fr) os := by
  rw [cl_law_bad rfl]
  cases h with
  | @fine ds hT hl h =>
    obtain ⟨z, ex⟩ := (lb_loop (k := k) (pl := .lst ds) (os := os) h hT (by simp) rfl (by simp) (by omega) .no .no .no).1 rfl
    have se := src_en (os := os) (ds := ds)
    have hl' : ¬ (30 : Int) < ds.length := by omega
    refine ⟨false, ?_⟩
    generalize enL 0 ds = EN at *
    simp only [lbE, WD, List.map_nil] at ex
    simp [ir_law_bad, isD, hl', se, ex, saidD]
  | @bad ds j hT hl h =>
    obtain ⟨z, ex⟩ := (lb_loop (k := k) (pl := .lst ds) (os := os) h hT (by simp) rfl (by simp) (by omega) .no .no .no).2 j rfl
    have se := src_en (os := os) (ds := ds)
    have hl' : ¬ (30 : Int) < ds.length := by omega
    refine ⟨false, ?_⟩
    generalize enL 0 ds = EN at *
    simp only [lbE, WD, List.map_nil] at ex
    simp [ir_law_bad, isD, hl', se, ex, saidD]
  | @long ds hl =>
    have hl' : (30 : Int) < ds.length := by omega
    exact ⟨false, by simp [ir_law_bad, isD, hl', saidD]⟩
  | tup => exact ⟨false, by simp [ir_law_bad, isD, saidD]⟩
  | non => exact ⟨false, by simp [ir_law_bad, isD, saidD]⟩
theorem call_checked {k : Nat} {d : D} {o : Option (Option Nat)} {os : Os} (h : Said d o) : call T (k + 7) ix_checked [d] os = (match o with | none => .ok (.bl true, false) os | some p => .exc cx_BadStep (plcD p) os) := by
  rw [cl_checked rfl]
  have lv : 2 ≤ (T.cf (k + 6)).lv := by show 2 ≤ k + 6; omega
  cases h with
  | @fine ds hT hl h =>
    obtain ⟨z, ex⟩ := (ck_loop (k := k) (pl := .lst ds) (os := os) h hT (by simp) rfl (by simp) (by omega) .no .no).1 rfl
    have se := src_en (os := os) (ds := ds)
    have hl' : ¬ (30 : Int) < ds.length := by omega
    generalize enL 0 ds = EN at *
    simp only [ckE, WD, ND, List.map_nil] at ex
    simp [ir_checked, isD, hl', se, ex]
  | @bad ds j hT hl h =>
    obtain ⟨z, ex⟩ := (ck_loop (k := k) (pl := .lst ds) (os := os) h hT (by simp) rfl (by simp) (by omega) .no .no).2 j rfl
    have se := src_en (os := os) (ds := ds)
    have hl' : ¬ (30 : Int) < ds.length := by omega
    generalize enL 0 ds = EN at *
    simp only [ckE, WD, ND, List.map_nil] at ex
    simp [ir_checked, isD, hl', se, ex, plcD]
  | @long ds hl =>
    have hl' : (30 : Int) < ds.length := by omega
    simp [ir_checked, isD, hl', plcD, lv, D.flat]
  | tup => simp [ir_checked, isD, plcD, lv, D.flat]
  | non => simp [ir_checked, isD, plcD, lv, D.flat]
def foundD : Option (Option Nat) → D
  | none => .tup [.str S_fine, .bl true]
  | some p => .tup [.str S_bad, plcD p]
theorem call_said {k : Nat} {d : D} {o : Option (Option Nat)} {os : Os} (h : Said d o) : ∃ fr, call T (k + 8) ix_law_said [d] os = .ok (foundD o, fr) os := by
  have ev := call_checked (k := k) (os := os) h
  rw [cl_law_said rfl]
  have nc : d.cell = true → ∃ ds, d = .lst ds := by cases h <;> simp [D.cell]
  cases o with
  | none =>
    refine ⟨false, ?_⟩
    simp only at ev
    simp [ir_law_said, ir_law_said_t1, ev, foundD]
  | some p =>
    simp only at ev
    have s1 : sub 4 4 = true := by decide
    have s2 : sub 4 0 = true := by decide
    have s3 : sub 4 1 = false := by decide
    have s4 : sub 4 2 = false := by decide
    have s5 : sub 4 3 = false := by decide
    have s6 : sub 4 5 = false := by decide
    have s7 : sub 4 6 = false := by decide
    have s8 : sub 4 7 = true := by decide
    have fl : (plcD p).flat = true := by cases p <;> rfl
    have e : execB (T.cf (k + 7)) ir_law_said_t1 ⟨[.val d false, .no, .no], os⟩ = .exc cx_BadStep (plcD p) ⟨[.val d false, .no, .no], os⟩ := by
      simp [ir_law_said_t1, ev]
    refine ⟨false, ?_⟩
    simp [ir_law_said]
    rw [e, tryZ_exc (by simpa using s1) (by simpa using s2)]
    simp only [foundD]
    generalize plcD p = PP at *
    simp [ir_law_said_h2, s1, s2, s3, s4, s5, s6, s7, s8, fl]
end
end Vi

namespace Vi
open PySem L2
noncomputable section
open Classical
/-! a plan spoilt -/
abbrev spE (P : D) (c m : Int) (e3 e4 e5 e6 e7 e8 e9 e10 e11 e12 e13 : Ent) : List Ent := [.val P true, .val (.int c) false, .val (.int m) false, e3, e4, e5, e6, e7, e8, e9, e10, e11, e12, e13]
def tT : D → Bool
  | .tup (_ :: _) => true
  | _ => false
def tN : D → Str
  | .tup (_ :: .str n :: _) => n
  | _ => S_q
def tG : D → Bool
  | .tup (.str w :: _) => decide (S_each = w) || decide (S_gap = w)
  | _ => false
theorem ne_nil {os : Os} {x : D} (h : Thg x) : cmpD .ne os x (.tup []) = some (!eqD x (.tup [])) := by
  have hs : snap os x = x := by cases h <;> rfl
  obtain ⟨m, h1, h2⟩ := thg_dep h
  rw [q_ned (a := m) (b := 1) (by rw [hs]; exact h1) rfl (by omega) (by omega), hs]
  rfl
section
variable {k : Nat} {P : D} {c m : Int} {e3 e4 e6 e7 e8 e9 e10 e11 e12 e13 : Ent} {os : Os}
theorem sp_c2 {x : D} (h : Thg x) : evalE (T.cf k) ir_law_spoilt_c2 ⟨spE P c m e3 e4 (.val x false) e6 e7 e8 e9 e10 e11 e12 e13, os⟩ = .ok (.bl (tT x), false) ⟨spE P c m e3 e4 (.val x false) e6 e7 e8 e9 e10 e11 e12 e13, os⟩ := by
  have ne := ne_nil (os := os) h
  unfold spE
  cases h with
  | emp =>
    rw [show eqD (.tup []) (.tup []) = true from rfl] at ne
    simp [ir_law_spoilt_c2, isD, tT, ne]
  | stp w n r hw hn hr =>
    have q : eqD (.tup (.str w :: .str n :: r)) (.tup []) = false := by simp [eqD, eqDs]
    rw [q] at ne
    simp [ir_law_spoilt_c2, isD, tT, ne]
  | non => simp [ir_law_spoilt_c2, isD, tT]
  | lst => simp [ir_law_spoilt_c2, isD, tT]
  | int => simp [ir_law_spoilt_c2, isD, tT]
theorem sp_e1 {x : D} (h : Thg x) (t : tT x = true) : evalE (T.cf k) ir_law_spoilt_e1 ⟨spE P c m e3 e4 (.val x false) e6 e7 e8 e9 e10 e11 e12 e13, os⟩ = .ok (.str (tN x), false) ⟨spE P c m e3 e4 (.val x false) e6 e7 e8 e9 e10 e11 e12 e13, os⟩ := by
  unfold spE
  cases h with
  | stp w n r hw hn hr => simp [ir_law_spoilt_e1, at1, tN]
  | _ => simp [tT] at t
theorem sp_names {xs : List D} (h : ∀ x ∈ xs, Thg x) (hl : xs.length < 1000) :
    compK (.nm 5) .val (evalE (T.cf k) ir_law_spoilt_c2) (evalE (T.cf k) ir_law_spoilt_e1) [.lst xs] ⟨spE P c m e3 e4 .no e6 e7 e8 e9 e10 e11 e12 e13, os⟩ = .ok (.lst (((xs.filter tT).map tN).map D.str), true) ⟨spE P c m e3 e4 .no e6 e7 e8 e9 e10 e11 e12 e13, os⟩ := by
  rw [compK_gen (xs := xs) (E1 := fun x => spE P c m e3 e4 (.val x false) e6 e7 e8 e9 e10 e11 e12 e13) (t := tT) (f := fun x => .str (tN x)) rfl (by omega) (fun x _ => rfl) (fun x _ => rfl) (fun x hx => ⟨false, sp_c2 (h x hx)⟩) (fun x hx t => ⟨false, sp_e1 (h x hx) t⟩)]
  rw [List.map_map]; rfl
theorem in_eg {os : Os} {l : List D} {w : Str} : cmpD .isin os (.tup [.str w]) (.tup [.tup [.str S_each], .tup [.str S_gap]]) = some (decide (S_each = w) || decide (S_gap = w)) ∧ cmpD .isin os (.tup []) (.tup [.tup [.str S_each], .tup [.str S_gap]]) = some false := by
  constructor
  · show (if ((D.tup [.str w]).flat && [D.tup [.str S_each], .tup [.str S_gap]].all D.flat) = true then some ([D.tup [.str S_each], .tup [.str S_gap]].any fun d => eqD d (.tup [.str w])) else inX (.tup [.str w]) [.tup [.str S_each], .tup [.str S_gap]]) = _
    rw [if_neg (by simp [D.flat])]
    have e1 : dep (.tup [.str w]) = some 1 := rfl
    have e2 : deps [.tup [.str S_each], .tup [.str S_gap]] = some 1 := rfl
    unfold inX
    rw [e1, e2]
    simp [eqD, eqDs]
  · show (if ((D.tup []).flat && [D.tup [.str S_each], .tup [.str S_gap]].all D.flat) = true then some ([D.tup [.str S_each], .tup [.str S_gap]].any fun d => eqD d (.tup [])) else inX (.tup []) [.tup [.str S_each], .tup [.str S_gap]]) = _
    rw [if_neg (by simp [D.flat])]
    have e1 : dep (.tup []) = some 1 := rfl
    have e2 : deps [.tup [.str S_each], .tup [.str S_gap]] = some 1 := rfl
    unfold inX
    rw [e1, e2]
    simp [eqD, eqDs]
theorem sp_c6 {x : D} (h : Thg x) : evalE (T.cf k) ir_law_spoilt_c6 ⟨spE P c m e3 e4 (.val x false) e6 e7 e8 e9 e10 e11 e12 e13, os⟩ = .ok (.bl (tG x), false) ⟨spE P c m e3 e4 (.val x false) e6 e7 e8 e9 e10 e11 e12 e13, os⟩ := by
  have s1 : ∀ w n r, slD os (.tup (.str w :: .str n :: r)) none (some 1) = some (.tup [.str w], false) := fun w n r => by
    show some (D.tup (cutD (.str w :: .str n :: r) none (some 1)), false) = _
    congr 2
  have s2 : slD os (.tup []) none (some 1) = some (.tup [], false) := rfl
  unfold spE
  cases h with
  | emp =>
    have := (in_eg (os := os) (l := []) (w := S_q)).2
    simp [ir_law_spoilt_c6, isD, tG, s2, intO, this]
  | stp w n r hw hn hr =>
    have := (in_eg (os := os) (l := []) (w := w)).1
    have e : tG (.tup (.str w :: .str n :: r)) = (decide (S_each = w) || decide (S_gap = w)) := rfl
    rw [e]
    generalize (decide (S_each = w) || decide (S_gap = w)) = B at *
    simp [ir_law_spoilt_c6, isD, s1, intO, this]
  | non => simp [ir_law_spoilt_c6, isD, tG]
  | lst => simp [ir_law_spoilt_c6, isD, tG]
  | int => simp [ir_law_spoilt_c6, isD, tG]
theorem sp_told {xs : List D} (h : ∀ x ∈ xs, Thg x) (hl : xs.length < 1000) :
    compK (.nm 5) .val (evalE (T.cf k) ir_law_spoilt_c6) (evalE (T.cf k) ir_law_spoilt_e5) [.lst xs] ⟨spE P c m e3 e4 .no e6 e7 e8 e9 e10 e11 e12 e13, os⟩ = .ok (.lst (((xs.filter tG).map tN).map D.str), true) ⟨spE P c m e3 e4 .no e6 e7 e8 e9 e10 e11 e12 e13, os⟩ := by
  rw [compK_gen (xs := xs) (E1 := fun x => spE P c m e3 e4 (.val x false) e6 e7 e8 e9 e10 e11 e12 e13) (t := tG) (f := fun x => .str (tN x)) rfl (by omega) (fun x _ => rfl) (fun x _ => rfl) (fun x hx => ⟨false, sp_c6 (h x hx)⟩) (fun x hx t => ⟨false, ?_⟩)]
  · rw [List.map_map]; rfl
  · refine sp_e1 (k := k) (h x hx) ?_
    have := h x hx
    cases this <;> first | rfl | (simp [tG] at t)
end
theorem tN_len {x : D} (h : Thg x) : (tN x).length ≤ 1000 := by
  cases h with
  | stp w n r hw hn hr => exact hn
  | _ => exact (show S_q.length ≤ 1000 from by decide +kernel)
theorem cut_mem' {α : Type} {xs : List α} {lo hi : Option Int} {x : α} (h : x ∈ cutD xs lo hi) : x ∈ xs := by
  unfold cutD at h
  exact List.mem_of_mem_drop (List.mem_of_mem_take h)
theorem cut_len' {α : Type} {xs : List α} {lo hi : Option Int} : (cutD xs lo hi).length ≤ xs.length := by
  unfold cutD
  rw [List.length_take, List.length_drop]; omega
theorem spl_mem {α : Type} {xs ys : List α} {lo hi : Option Int} {x : α} (h : x ∈ splL xs lo hi ys) : x ∈ xs ∨ x ∈ ys := by
  unfold splL at h
  rcases List.mem_append.mp h with h | h
  · rcases List.mem_append.mp h with h | h
    · exact .inl (List.mem_of_mem_take h)
    · exact .inr h
  · exact .inl (List.mem_of_mem_drop h)
theorem spl_len {α : Type} {xs ys : List α} {lo hi : Option Int} : (splL xs lo hi ys).length ≤ xs.length + ys.length := by
  unfold splL
  simp only [List.length_append, List.length_take, List.length_drop]; omega
end
end Vi

namespace Vi
open PySem L2
noncomputable section
open Classical
section
variable {k : Nat} {ds : List D} {c m : Int} {os : Os}
theorem sp_x1 : ∃ a : Nat, a ≤ ds.length ∧ execB (T.cf k) (ir_law_spoilt.take 3) ⟨[.val (.lst ds) false, .val (.int c) false, .val (.int m) false, .no, .no, .no, .no, .no, .no, .no, .no, .no, .no, .no], os⟩ = .ok .next ⟨spE (.lst ds) c m (.val (.int a) false) .no .no .no .no .no .no .no .no .no .no, os⟩ := by
  have p : (0 : Int) < (ds.length : Int) + 1 := by omega
  have p1 := Int.emod_nonneg (c / 14) (show (ds.length : Int) + 1 ≠ 0 by omega)
  have p2 := Int.emod_lt_of_pos (c / 14) p
  by_cases q : c / 7 % 2 = 1
  · refine ⟨ds.length, by omega, ?_⟩
    show execB _ (_ :: _) _ = _
    refine (b_set (v := (.lst ds, true)) (z1 := ⟨_, os⟩) (by simp; rfl)).trans ?_
    refine (b_set (v := (.int (c / 14 % ((ds.length : Int) + 1)), false)) (z1 := ⟨_, os⟩) (by simp [p]; rfl)).trans ?_
    refine (b_then (z1 := ⟨_, os⟩) (by simp [q]) (by simp; rfl)).trans ?_
    simp
  · obtain ⟨a, ha⟩ : ∃ a : Nat, (a : Int) = c / 14 % ((ds.length : Int) + 1) := ⟨_, Int.toNat_of_nonneg p1⟩
    refine ⟨a, by omega, ?_⟩
    show execB _ (_ :: _) _ = _
    refine (b_set (v := (.lst ds, true)) (z1 := ⟨_, os⟩) (by simp; rfl)).trans ?_
    refine (b_set (v := (.int a, false)) (z1 := ⟨_, os⟩) (by simp [p, ha]; rfl)).trans ?_
    refine (b_skip (by simp [q])).trans ?_
    simp
theorem ad_q {l : List Str} (h : l.length < 1000) : binD .add os (.lst (l.map D.str)) (.lst [.str S_q]) = some (.lst ((l ++ [S_q]).map D.str), true) := by
  show (if (l.map D.str).length + [D.str S_q].length ≤ sizeLine then some (D.lst (l.map D.str ++ [.str S_q]), true) else none) = _
  rw [if_pos (by unfold sizeLine; simp; omega)]
  simp
theorem nmsL {xs : List D} (h : ∀ x ∈ xs, Thg x) (p : D → Bool) : ∀ s ∈ (xs.filter p).map tN, s.length ≤ 1000 := by
  intro s hs
  obtain ⟨x, hx, rfl⟩ := List.mem_map.mp hs
  exact tN_len (h x (List.mem_filter.mp hx).1)
theorem sp_x2 {a : Nat} (ha : a ≤ ds.length) (h : ∀ x ∈ ds, Thg x) (hl : ds.length < 900) : ∃ NL : List Str, NL ≠ [] ∧ (∀ s ∈ NL, s.length ≤ 1000) ∧ execB (T.cf k) ((ir_law_spoilt.drop 3).take 2) ⟨spE (.lst ds) c m (.val (.int a) false) .no .no .no .no .no .no .no .no .no .no, os⟩ = .ok .next ⟨spE (.lst ds) c m (.val (.int a) false) (.val (.lst (NL.map D.str)) true) .no .no .no .no .no .no .no .no .no, os⟩ := by
  have cp := sp_names (k := k) (P := .lst ds) (c := c) (m := m) (e3 := .val (.int a) false) (e4 := .no) (e6 := .no) (e7 := .no) (e8 := .no) (e9 := .no) (e10 := .no) (e11 := .no) (e12 := .no) (e13 := .no) (os := os) h (by omega)
  have lq : S_q.length ≤ 1000 := by decide +kernel
  have l1 : ∀ xs : List D, ((xs.filter tT).map tN).length ≤ xs.length := fun xs => by rw [List.length_map]; exact List.length_filter_le _ _
  have q1 := ad_q (os := os) (l := (ds.filter tT).map tN) (by have := l1 ds; omega)
  by_cases q : m % 4 > 0
  · have hc : ∀ x ∈ cutD ds none (some (a : Int)), Thg x := fun x hx => h x (cut_mem' hx)
    have hcl : (cutD ds none (some (a : Int))).length ≤ ds.length := cut_len'
    have cp2 := sp_names (k := k) (P := .lst ds) (c := c) (m := m) (e3 := .val (.int a) false) (e4 := .val (.lst (((ds.filter tT).map tN ++ [S_q]).map D.str)) true) (e6 := .no) (e7 := .no) (e8 := .no) (e9 := .no) (e10 := .no) (e11 := .no) (e12 := .no) (e13 := .no) (os := os) hc (by omega)
    have q2 := ad_q (os := os) (l := ((cutD ds none (some (a : Int))).filter tT).map tN) (by have := l1 (cutD ds none (some (a : Int))); omega)
    refine ⟨((cutD ds none (some (a : Int))).filter tT).map tN ++ [S_q], by simp, fun s hs => ?_, ?_⟩
    · rcases List.mem_append.mp hs with hs | hs
      · exact nmsL hc _ s hs
      · rw [List.mem_singleton.mp hs]; exact lq
    · have e4 : ir_law_spoilt_c4 = ir_law_spoilt_c2 := rfl
      have e3 : ir_law_spoilt_e3 = ir_law_spoilt_e1 := rfl
      unfold spE at *
      generalize (((cutD ds none (some (a : Int))).filter tT).map tN ++ [S_q]).map D.str = R2 at *
      generalize (((cutD ds none (some (a : Int))).filter tT).map tN).map D.str = R1 at *
      generalize ((ds.filter tT).map tN ++ [S_q]).map D.str = R4 at *
      generalize (((ds.filter tT).map tN).map D.str) = R3 at *
      show execB _ (_ :: _) _ = _
      refine (b_set (v := (.lst R4, true)) (z1 := ⟨_, os⟩) (by simp [cp, q1]; rfl)).trans ?_
      refine (b_then (z1 := ⟨_, os⟩) (by simp [q]) (by simp [e4, e3, intO, cp2, q2]; rfl)).trans ?_
      simp
  · refine ⟨(ds.filter tT).map tN ++ [S_q], by simp, fun s hs => ?_, ?_⟩
    · rcases List.mem_append.mp hs with hs | hs
      · exact nmsL h _ s hs
      · rw [List.mem_singleton.mp hs]; exact lq
    · unfold spE at *
      generalize ((ds.filter tT).map tN ++ [S_q]).map D.str = R4 at *
      generalize (((ds.filter tT).map tN).map D.str) = R3 at *
      show execB _ (_ :: _) _ = _
      refine (b_set (v := (.lst R4, true)) (z1 := ⟨_, os⟩) (by simp [cp, q1]; rfl)).trans ?_
      refine (b_skip (by simp [show ¬ 0 < m % 4 from q])).trans ?_
      simp
theorem sp_x3 {e3 : Ent} {NL : List Str} (h : NL ≠ []) : ∃ A ∈ NL, ∃ B ∈ NL, execB (T.cf k) (((ir_law_spoilt.drop 3).drop 2).take 2) ⟨spE (.lst ds) c m e3 (.val (.lst (NL.map D.str)) true) .no .no .no .no .no .no .no .no .no, os⟩ = .ok .next ⟨spE (.lst ds) c m e3 (.val (.lst (NL.map D.str)) true) .no (.val (.str A) false) (.val (.str B) false) .no .no .no .no .no .no, os⟩ := by
  obtain ⟨A, hA, a1⟩ := at_some h (c / 28)
  obtain ⟨B, hB, b1⟩ := at_some h (m / 4)
  refine ⟨A, hA, B, hB, ?_⟩
  have p : 0 < NL.length := List.length_pos_iff.mpr h
  have p' : (0 : Int) < (NL.length : Int) := by omega
  have ln : fnD .len os [.lst (NL.map D.str)] = some (.int NL.length, false) := by simp
  unfold spE
  generalize (NL.length : Int) = n at *
  generalize NL.map D.str = LL at *
  have ixl : ∀ i, ixD os (.lst LL) (.int i) = atI LL i := fun i => rfl
  show execB _ (_ :: _) _ = _
  refine (b_set (v := (.str A, false)) (z1 := ⟨_, os⟩) (by simp [ln, p', ixl, a1, -f_len]; rfl)).trans ?_
  refine (b_set (v := (.str B, false)) (z1 := ⟨_, os⟩) (by simp [ln, p', ixl, b1, -f_len]; rfl)).trans ?_
  simp
def SM1 (A B : Str) : List D := [.tup [.str S_take, .str S_new, .str S__d41d], .lst [.str S_take, .str S_new, .str S_k], .tup [.str S_take, .str B, .str S_k], .tup [.str S_only, .str S_new, .str B, .int 0, .int 9], .tup [.str S_gap, .str S_new, .str S_unknown, .str S_sum, .int 3], .tup [.str S_join, .str S_new, .str B, .str A, .int 3], .tup [.str S_both, .str S_new, .str A, .str B]]
theorem sp_x4 {e3 e4 : Ent} {A B : Str} : ∃ E F e9, (E = .tup [.str S_each, .str S_new, .str B, .str S_count, .int 4, .int 2] ∨ E = .tup [.str S_each, .str S_new, .str B, .str S_sum, .int 1000001, .int 1000001]) ∧ (F = .int 5 ∨ F = .tup []) ∧
    execB (T.cf k) ((((ir_law_spoilt.drop 3).drop 2).drop 2).take 5) ⟨spE (.lst ds) c m e3 e4 .no (.val (.str A) false) (.val (.str B) false) .no .no .no .no .no .no, os⟩ = .ok .next ⟨spE (.lst ds) c m e3 e4 .no (.val (.str A) false) (.val (.str B) false) (.val (.lst (SM1 A B ++ [E, .tup [.str S_turn, .str S_new, .str S__d41d, .int 1, .int 1], .non, F])) true) e9 (.val (.int (c % 14)) false) .no .no .no, os⟩ := by
  obtain ⟨E, hE, eE⟩ : ∃ E, (E = D.tup [.str S_each, .str S_new, .str B, .str S_count, .int 4, .int 2] ∨ E = .tup [.str S_each, .str S_new, .str B, .str S_sum, .int 1000001, .int 1000001]) ∧ atI [D.tup [.str S_each, .str S_new, .str B, .str S_count, .int 4, .int 2], .tup [.str S_each, .str S_new, .str B, .str S_sum, .int 1000001, .int 1000001]] (m / 8 % 2) = some E := by
    rcases mod2 (m / 8) with q | q <;> rw [q]
    · exact ⟨_, .inl rfl, at0⟩
    · exact ⟨_, .inr rfl, at1⟩
  obtain ⟨F, hF, eF⟩ : ∃ F, (F = D.int 5 ∨ F = .tup []) ∧ atI [D.int 5, .tup []] (m / 8 % 2) = some F := by
    rcases mod2 (m / 8) with q | q <;> rw [q]
    · exact ⟨_, .inl rfl, at0⟩
    · exact ⟨_, .inr rfl, at1⟩
  refine ⟨E, F, .val (.lst [.tup [.str S_each, .str S_new, .str B, .str S_count, .int 4, .int 2], .tup [.str S_each, .str S_new, .str B, .str S_sum, .int 1000001, .int 1000001]]) true, hE, hF, ?_⟩
  have a1 : binD .add os (.lst [.tup [.str S_take, .str S_new, .str S__d41d], .lst [.str S_take, .str S_new, .str S_k], .tup [.str S_take, .str B, .str S_k], .tup [.str S_only, .str S_new, .str B, .int 0, .int 9]]) (.lst [.tup [.str S_gap, .str S_new, .str S_unknown, .str S_sum, .int 3], .tup [.str S_join, .str S_new, .str B, .str A, .int 3], .tup [.str S_both, .str S_new, .str A, .str B]]) = some (.lst (SM1 A B), true) := by
    show (if 4 + 3 ≤ sizeLine then some (D.lst ([_, _, _, _] ++ [_, _, _]), true) else none) = _
    rw [if_pos (by decide)]
    rfl
  have a2 : binD .add os (.lst (SM1 A B)) (.lst [E, .tup [.str S_turn, .str S_new, .str S__d41d, .int 1, .int 1], .non, F]) = some (.lst (SM1 A B ++ [E, .tup [.str S_turn, .str S_new, .str S__d41d, .int 1, .int 1], .non, F]), true) := by
    show (if 7 + 4 ≤ sizeLine then some (D.lst (SM1 A B ++ [_, _, _, _]), true) else none) = _
    rw [if_pos (by decide)]
  have ixl : ∀ LL i, ixD os (.lst LL) (.int i) = atI LL i := fun _ i => rfl
  generalize SM1 A B ++ [E, .tup [.str S_turn, .str S_new, .str S__d41d, .int 1, .int 1], .non, F] = R2 at *
  generalize SM1 A B = R1 at *
  unfold spE
  show execB _ (_ :: _) _ = _
  refine (b_set (v := (.lst [.tup [.str S_take, .str S_new, .str S__d41d], .lst [.str S_take, .str S_new, .str S_k], .tup [.str S_take, .str B, .str S_k], .tup [.str S_only, .str S_new, .str B, .int 0, .int 9]], true)) (z1 := ⟨_, os⟩) (by simp; rfl)).trans ?_
  refine (b_set (v := (.lst R1, true)) (z1 := ⟨_, os⟩) (by simp [a1]; rfl)).trans ?_
  refine (b_set (v := (.lst [.tup [.str S_each, .str S_new, .str B, .str S_count, .int 4, .int 2], .tup [.str S_each, .str S_new, .str B, .str S_sum, .int 1000001, .int 1000001]], true)) (z1 := ⟨_, os⟩) (by simp; rfl)).trans ?_
  refine (b_set (v := (.lst R2, true)) (z1 := ⟨_, os⟩) (by simp [ixl, eE, eF, a2]; rfl)).trans ?_
  refine (b_set (v := (.int (c % 14), false)) (z1 := ⟨_, os⟩) (by simp; rfl)).trans ?_
  simp
theorem sm_thg {A B : Str} {E F : D} (hA : A.length ≤ 1000) (hB : B.length ≤ 1000) (hE : E = .tup [.str S_each, .str S_new, .str B, .str S_count, .int 4, .int 2] ∨ E = .tup [.str S_each, .str S_new, .str B, .str S_sum, .int 1000001, .int 1000001]) (hF : F = .int 5 ∨ F = .tup []) :
    ∀ x ∈ SM1 A B ++ [E, .tup [.str S_turn, .str S_new, .str S__d41d, .int 1, .int 1], .non, F], Thg x := by
  have l1 : S_new.length ≤ 1000 := by decide +kernel
  have l2 : S__d41d.length ≤ 1000 := by decide +kernel
  have l3 : S_k.length ≤ 1000 := by decide +kernel
  have l4 : S_unknown.length ≤ 1000 := by decide +kernel
  have l5 : S_sum.length ≤ 1000 := by decide +kernel
  have l6 : S_count.length ≤ 1000 := by decide +kernel
  have w1 : S_take.length ≤ 1000 := by decide +kernel
  have w2 : S_only.length ≤ 1000 := by decide +kernel
  have w3 : S_gap.length ≤ 1000 := by decide +kernel
  have w4 : S_join.length ≤ 1000 := by decide +kernel
  have w5 : S_both.length ≤ 1000 := by decide +kernel
  have w6 : S_each.length ≤ 1000 := by decide +kernel
  have w7 : S_turn.length ≤ 1000 := by decide +kernel
  have p : ∀ (l : List D), (∀ x ∈ l, x = .str A ∨ x = .str B ∨ x = .str S__d41d ∨ x = .str S_k ∨ x = .str S_unknown ∨ x = .str S_sum ∨ x = .str S_count ∨ ∃ i, x = .int i) → ∀ x ∈ l, Prt x := by
    intro l h x hx
    rcases h x hx with rfl | rfl | rfl | rfl | rfl | rfl | rfl | ⟨i, rfl⟩
    · exact .s _ hA
    · exact .s _ hB
    · exact .s _ l2
    · exact .s _ l3
    · exact .s _ l4
    · exact .s _ l5
    · exact .s _ l6
    · exact .i _
  intro x hx
  simp only [SM1, List.cons_append, List.nil_append, List.mem_cons, List.not_mem_nil, or_false] at hx
  rcases hx with rfl | rfl | rfl | rfl | rfl | rfl | rfl | rfl | rfl | rfl | rfl
  · exact .stp _ _ _ w1 l1 (p _ (by simp))
  · exact .lst
  · exact .stp _ _ _ w1 hB (p _ (by simp))
  · exact .stp _ _ _ w2 l1 (p _ (by simp))
  · exact .stp _ _ _ w3 l1 (p _ (by simp))
  · exact .stp _ _ _ w4 l1 (p _ (by simp))
  · exact .stp _ _ _ w5 l1 (p _ (by simp))
  · rcases hE with rfl | rfl <;> exact .stp _ _ _ w6 l1 (p _ (by simp))
  · exact .stp _ _ _ w7 l1 (p _ (by simp))
  · exact .non
  · rcases hF with rfl | rfl
    · exact .int
    · exact .emp
end
end
end Vi

namespace Vi
open PySem L2
noncomputable section
open Classical
theorem mut_ins {ds : List D} {y : D} {i : Int} {os : Os} (h0 : 0 ≤ i) (h1 : i ≤ ds.length) (h : ds.length < 10000) : mutL "insert" ds [.int i, y] os = some (ds.take i.toNat ++ [y] ++ ds.drop i.toNat) := by
  unfold mutL
  rw [if_neg (by decide), if_neg (by decide), if_pos rfl]
  simp only
  rw [if_pos (by have : sizeLine = 16777216 := rfl; unfold InsOk; omega)]
theorem ins_thg {ds : List D} {y : D} {i : Nat} (h : ∀ x ∈ ds, Thg x) (hy : Thg y) : ∀ x ∈ ds.take i ++ [y] ++ ds.drop i, Thg x := by
  intro x hx
  rcases List.mem_append.mp hx with hx | hx
  · rcases List.mem_append.mp hx with hx | hx
    · exact h x (List.mem_of_mem_take hx)
    · rw [List.mem_singleton.mp hx]; exact hy
  · exact h x (List.mem_of_mem_drop hx)
theorem ins_len {ds : List D} {y : D} {i : Nat} : (ds.take i ++ [y] ++ ds.drop i).length = ds.length + 1 := by
  simp only [List.length_append, List.length_take, List.length_drop, List.length_singleton]; omega
section
variable {k : Nat} {ds : List D} {c m : Int} {os : Os}
theorem sp_b7 {P : List D} {a j : Nat} {A : Str} {e4 e5 e7 e8 e9 e10 e11 e13 : Ent} (hP : ∀ x ∈ P, Thg x) (hA : A.length ≤ 1000) (hj : j < 7) (ha : a + j ≤ P.length) (hl : P.length < 9000) : ∃ f5 f13 P', (∀ x ∈ P', Thg x) ∧ P'.length = P.length + 1 ∧
    execB (T.cf k) ir_law_spoilt_b7 ⟨spE (.lst P) c m (.val (.int a) false) e4 e5 (.val (.str A) false) e7 e8 e9 e10 e11 (.val (.int j) false) e13, os⟩ = .ok .next ⟨spE (.lst P') c m (.val (.int a) false) e4 f5 (.val (.str A) false) e7 e8 e9 e10 e11 (.val (.int j) false) f13, os⟩ := by
  obtain ⟨c1, h1⟩ := ix_str' (os := os) (s := S_zabcdefg) (k := j) (by decide +kernel) (by omega) (by rw [show S_zabcdefg.length = 8 from by decide +kernel]; omega)
  obtain ⟨c2, h2⟩ := ix_str' (os := os) (s := S_abcdefg) (k := j) (by decide +kernel) (by omega) (by rw [show S_abcdefg.length = 7 from by decide +kernel]; omega)
  have ad : ∀ c : Nat, binD .add os (.str S_w) (.str ⟨#[c]⟩) = some (.str (S_w ++ ⟨#[c]⟩), false) := fun c => n_adds (by rw [show S_w.length = 1 from by decide +kernel, show (⟨#[c]⟩ : Str).length = 1 from rfl]; omega)
  have ln : ∀ c : Nat, (S_w ++ (⟨#[c]⟩ : Str)).length ≤ 1000 := fun c => by rw [len_app, show S_w.length = 1 from by decide +kernel, show (⟨#[c]⟩ : Str).length = 1 from rfl]; omega
  obtain ⟨U, hU, eU⟩ : ∃ U : Str, U.length ≤ 1000 ∧ ∀ z, evalE (T.cf k) (.ix (.lst [.bin .add (.c (.str S_w)) (.ix (.c (.str S_zabcdefg)) (.b 12)), .v 6]) (.fn .int [.cmp .eq (.b 12) (.c (.int 0))])) ⟨[.val (.lst P) true, .val (.int c) false, .val (.int m) false, .val (.int a) false, e4, e5, .val (.str A) false, e7, e8, e9, e10, e11, .val (.int j) false, z], os⟩ = .ok (.str U, false) ⟨[.val (.lst P) true, .val (.int c) false, .val (.int m) false, .val (.int a) false, e4, e5, .val (.str A) false, e7, e8, e9, e10, e11, .val (.int j) false, z], os⟩ := by
    by_cases q : (j : Int) = 0
    · have i1 : ∀ x y : D, ixD os (.lst [x, y]) (.int 1) = some y := fun x y => at1
      have fi : fnD .int os [.bl true] = some (.int 1, false) := by rfl
      refine ⟨A, hA, fun z => ?_⟩
      rw [q] at h1 ⊢
      simp [h1, ad, fi, i1]
    · have i1 : ∀ x y : D, ixD os (.lst [x, y]) (.int 0) = some x := fun x y => at0
      have fi : fnD .int os [.bl false] = some (.int 0, false) := by rfl
      have q' : ¬ j = 0 := by omega
      refine ⟨_, ln c1, fun z => ?_⟩
      simp [h1, ad, q', fi, i1]
  have eU := eU e13
  have w1 : S_both.length ≤ 1000 := by decide +kernel
  have w2 : S_join.length ≤ 1000 := by decide +kernel
  have hU2 : Prt (.str U) := .s _ hU
  have mi := fun y : D => mut_ins (ds := P) (y := y) (i := (a : Int) + (j : Int)) (os := os) (by omega) (by omega) (by omega)
  have ja : (((a : Int) + (j : Int)).toNat) = a + j := by omega
  rw [ja] at mi
  by_cases q : m / 28 % 2 = 1 ∧ 0 < j
  · obtain ⟨q1, q2⟩ := q
    refine ⟨.val (.tup [.str S_join, .str (S_w ++ ⟨#[c2]⟩), .str U, .str U, .int 1]) false, .val (.str U) false, _, ins_thg (i := a + j) hP (.stp S_join (S_w ++ ⟨#[c2]⟩) [.str U, .str U, .int 1] w2 (ln c2) ?_), ins_len, ?_⟩
    · intro x hx
      simp only [List.mem_cons, List.not_mem_nil, or_false] at hx
      rcases hx with rfl | rfl | rfl
      · exact hU2
      · exact hU2
      · exact .i _
    · have mi := mi (.tup [.str S_join, .str (S_w ++ ⟨#[c2]⟩), .str U, .str U, .int 1])
      unfold spE
      generalize P.take (a + j) ++ [.tup [.str S_join, .str (S_w ++ ⟨#[c2]⟩), .str U, .str U, .int 1]] ++ P.drop (a + j) = P2 at *
      have ad2 := ad c2
      generalize S_w ++ (⟨#[c2]⟩ : Str) = V at *
      show execB _ (_ :: _) _ = _
      refine (b_set eU).trans ?_
      refine (b_set (v := (.tup [.str S_both, .str V, .str U, .str U], false)) (z1 := ⟨_, os⟩) (by simp [h2, ad2]; rfl)).trans ?_
      refine (b_then (z1 := ⟨_, os⟩) (by simp [q1, q2]) (by simp [h2, ad2]; rfl)).trans ?_
      refine (b_go (z1 := ⟨_, os⟩) (by simp [mi]; rfl)).trans ?_
      simp
  · refine ⟨.val (.tup [.str S_both, .str (S_w ++ ⟨#[c2]⟩), .str U, .str U]) false, .val (.str U) false, _, ins_thg (i := a + j) hP (.stp S_both (S_w ++ ⟨#[c2]⟩) [.str U, .str U] w1 (ln c2) ?_), ins_len, ?_⟩
    · intro x hx
      simp only [List.mem_cons, List.not_mem_nil, or_false] at hx
      rcases hx with rfl | rfl <;> exact hU2
    · have mi := mi (.tup [.str S_both, .str (S_w ++ ⟨#[c2]⟩), .str U, .str U])
      unfold spE
      generalize P.take (a + j) ++ [.tup [.str S_both, .str (S_w ++ ⟨#[c2]⟩), .str U, .str U]] ++ P.drop (a + j) = P2 at *
      have ad2 := ad c2
      generalize S_w ++ (⟨#[c2]⟩ : Str) = V at *
      show execB _ (_ :: _) _ = _
      refine (b_set eU).trans ?_
      refine (b_set (v := (.tup [.str S_both, .str V, .str U, .str U], false)) (z1 := ⟨_, os⟩) (by simp [h2, ad2]; rfl)).trans ?_
      refine (b_skip ?_).trans ?_
      · by_cases q1 : m / 28 % 2 = 1
        · have q2 : ¬ 0 < j := fun z => q ⟨q1, z⟩
          simp [q1, q2]
        · simp [q1]
      refine (b_go (z1 := ⟨_, os⟩) (by simp [mi]; rfl)).trans ?_
      simp
theorem sp_x5 {a : Nat} {A B : Str} {SM : List D} {e4 e9 : Ent} (h : ∀ x ∈ ds, Thg x) (hl : ds.length < 900) (ha : a ≤ ds.length) (hA : A.length ≤ 1000) (hS : ∀ x ∈ SM, Thg x) (hS2 : SM.length = 11) :
    ∃ ds' z, (∀ x ∈ ds', Thg x) ∧ ds'.length ≤ ds.length + 7 ∧ execB (T.cf k) ((((ir_law_spoilt.drop 3).drop 2).drop 2).drop 5) ⟨spE (.lst ds) c m (.val (.int a) false) e4 .no (.val (.str A) false) (.val (.str B) false) (.val (.lst SM) true) e9 (.val (.int (c % 14)) false) .no .no .no, os⟩ = .ok (.ret (.lst ds') true) ⟨z, os⟩ := by
  have hc : ∀ x ∈ cutD ds none (some (a : Int)), Thg x := fun x hx => h x (cut_mem' hx)
  have hcl : (cutD ds none (some (a : Int))).length ≤ ds.length := cut_len'
  have cp := sp_told (k := k) (P := .lst ds) (c := c) (m := m) (e3 := .val (.int a) false) (e4 := e4) (e6 := .val (.str A) false) (e7 := .val (.str B) false) (e8 := .val (.lst SM) true) (e9 := e9) (e10 := .val (.int (c % 14)) false) (e11 := .no) (e12 := .no) (e13 := .no) (os := os) hc (by omega)
  obtain ⟨TL, hTL⟩ : ∃ TL, TL = ((cutD ds none (some (a : Int))).filter tG).map tN := ⟨_, rfl⟩
  have tl : ∀ s ∈ TL, s.length ≤ 1000 := by rw [hTL]; exact nmsL hc _
  rw [← hTL] at cp
  clear hTL
  have qn := q_nesn (os := os) (l := TL)
  have lk : S_k.length ≤ 1000 := by decide +kernel
  have lt : S_take.length ≤ 1000 := by decide +kernel
  have h14a := Int.emod_nonneg c (show (14 : Int) ≠ 0 by omega)
  have h14b := Int.emod_lt_of_pos c (show (0 : Int) < 14 by omega)
  have ixl : ∀ LL i, ixD os (.lst LL) (.int i) = atI LL i := fun _ i => rfl
  by_cases q13 : c % 14 = 13 ∧ TL ≠ []
  · obtain ⟨q1, q2⟩ := q13
    obtain ⟨U, hU, u1⟩ := at_some q2 m
    have p : 0 < TL.length := List.length_pos_iff.mpr q2
    have p' : (0 : Int) < (TL.length : Int) := by omega
    have ln : fnD .len os [.lst (TL.map D.str)] = some (.int TL.length, false) := by simp
    have mi := mut_ins (ds := ds) (y := .tup [.str S_take, .str U, .str S_k]) (i := (a : Int)) (os := os) (by omega) (by omega) (by omega)
    rw [Int.toNat_natCast] at mi
    refine ⟨ds.take a ++ [.tup [.str S_take, .str U, .str S_k]] ++ ds.drop a, [.val (.lst (ds.take a ++ [.tup [.str S_take, .str U, .str S_k]] ++ ds.drop a)) true, .val (.int c) false, .val (.int m) false, .val (.int a) false, e4, .no, .val (.str A) false, .val (.str B) false, .val (.lst SM) true, e9, .val (.int (c % 14)) false, .val (.lst (TL.map D.str)) true, .no, .no], ins_thg h (.stp _ _ _ lt (tl U hU) ?_), by rw [ins_len]; omega, ?_⟩
    · intro x hx
      rw [List.mem_singleton.mp hx]; exact .s _ lk
    · rw [show TL.isEmpty = false from by cases TL <;> simp at q2 ⊢] at qn
      generalize (TL.length : Int) = n at *
      generalize TL.map D.str = TD at *
      generalize ds.take a ++ [.tup [.str S_take, .str U, .str S_k]] ++ ds.drop a = R2 at *
      unfold spE at *
      show execB _ (_ :: _) _ = _
      refine (b_set (v := (.lst TD, true)) (z1 := ⟨_, os⟩) (by simp [intO, cp]; rfl)).trans ?_
      refine b_take (by simp [q1, qn]) ?_
      simp [ln, p', ixl, u1, mi, -f_len]
  · by_cases q11 : c % 14 < 11
    · obtain ⟨x, hx, ex⟩ : ∃ x ∈ SM, atI SM (c % 14) = some x := by
        obtain ⟨j, hj⟩ : ∃ j : Nat, (j : Int) = c % 14 := ⟨_, Int.toNat_of_nonneg h14a⟩
        rw [← hj]
        have hlt : j < SM.length := by omega
        exact ⟨SM[j], List.getElem_mem hlt, atI_nat hlt⟩
      have sp : splO ds (some (a : Int)) (some ((a : Int) + m / 64 % 2)) (.lst [x]) = some (splL ds (some (a : Int)) (some ((a : Int) + m / 64 % 2)) [x]) := by
        unfold splO
        simp only
        rw [if_pos (by simp only [List.length_singleton]; omega)]
      have sl := spl_len (xs := ds) (ys := [x]) (lo := some (a : Int)) (hi := some ((a : Int) + m / 64 % 2))
      have sm : ∀ y ∈ splL ds (some (a : Int)) (some ((a : Int) + m / 64 % 2)) [x], Thg y := fun y hy => by
        rcases spl_mem hy with q | q
        · exact h y q
        · rw [List.mem_singleton.mp q]; exact hS x hx
      generalize splL ds (some (a : Int)) (some ((a : Int) + m / 64 % 2)) [x] = R2 at *
      refine ⟨R2, [.val (.lst R2) true, .val (.int c) false, .val (.int m) false, .val (.int a) false, e4, .no, .val (.str A) false, .val (.str B) false, .val (.lst SM) true, e9, .val (.int (c % 14)) false, .val (.lst (TL.map D.str)) true, .no, .no], sm, by simp only [List.length_singleton] at sl; omega, ?_⟩
      have q13' : ¬ c % 14 = 13 := by omega
      generalize TL.map D.str = TD at *
      unfold spE at *
      show execB _ (_ :: _) _ = _
      refine (b_set (v := (.lst TD, true)) (z1 := ⟨_, os⟩) (by simp [intO, cp]; rfl)).trans ?_
      refine (b_skip (by simp [q13'])).trans ?_
      refine b_take (by simp [q11]) ?_
      simp [ixl, ex, intO, sp]
    · obtain ⟨n, hn, en⟩ : ∃ n : Nat, n ≤ 6 ∧ atI [D.int 3, .int 4, .int 5, .int 5, .int 1, .int 6, .int 5] (m / 4 % 7) = some (.int n) := by
        have p1 := Int.emod_nonneg (m / 4) (show (7 : Int) ≠ 0 by omega)
        have p2 := Int.emod_lt_of_pos (m / 4) (show (0 : Int) < 7 by omega)
        generalize m / 4 % 7 = r at *
        have : r = 0 ∨ r = 1 ∨ r = 2 ∨ r = 3 ∨ r = 4 ∨ r = 5 ∨ r = 6 := by omega
        rcases this with rfl | rfl | rfl | rfl | rfl | rfl | rfl
        · exact ⟨3, by omega, at0⟩
        · exact ⟨4, by omega, at1⟩
        · exact ⟨5, by omega, at2⟩
        · exact ⟨5, by omega, at3⟩
        · exact ⟨1, by omega, at4⟩
        · exact ⟨6, by omega, at5⟩
        · exact ⟨5, by omega, at6⟩
      have rg : srcOf os .range [.int (n : Int)] = some ((List.range n).map fun i : Nat => D.int i) := by
        rw [src_range1 (by omega) (by omega)]; simp
      obtain ⟨env2, lp, P, e5, e12, e13, p1, p2, rfl⟩ := forL_inv (tg := .nm 12) (bod := execB (T.cf k) ir_law_spoilt_b7) (os := os) (fun i env => ∃ (P : List D) (e5 e12 e13 : Ent), P.length = ds.length + i ∧ (∀ x ∈ P, Thg x) ∧ env = spE (.lst P) c m (.val (.int a) false) e4 e5 (.val (.str A) false) (.val (.str B) false) (.val (.lst SM) true) e9 (.val (.int (c % 14)) false) (.val (.lst (TL.map D.str)) true) e12 e13) ((List.range n).map fun i : Nat => D.int i) (spE (.lst ds) c m (.val (.int a) false) e4 .no (.val (.str A) false) (.val (.str B) false) (.val (.lst SM) true) e9 (.val (.int (c % 14)) false) (.val (.lst (TL.map D.str)) true) .no .no) ⟨ds, .no, .no, .no, rfl, h, rfl⟩ (by
        rintro i hi env ⟨P, e5, e12, e13, p1, p2, rfl⟩
        have hi' : i < n := by simpa using hi
        obtain ⟨f5, f13, P', a1, a2, ex⟩ := sp_b7 (k := k) (c := c) (m := m) (P := P) (a := a) (j := i) (A := A) (e4 := e4) (e5 := e5) (e7 := .val (.str B) false) (e8 := .val (.lst SM) true) (e9 := e9) (e10 := .val (.int (c % 14)) false) (e11 := .val (.lst (TL.map D.str)) true) (e13 := e13) (os := os) p2 hA (by omega) (by omega) (by omega)
        have e1 : ((List.range n).map fun i : Nat => D.int i)[i] = .int (i : Int) := by simp
        rw [e1, setT_n]
        exact ⟨_, _, _, rfl, ex, by simp, P', f5, _, f13, by omega, a1, rfl⟩)
      have pl : P.length = ds.length + n := by simpa using p1
      refine ⟨P, spE (.lst P) c m (.val (.int a) false) e4 e5 (.val (.str A) false) (.val (.str B) false) (.val (.lst SM) true) e9 (.val (.int (c % 14)) false) (.val (.lst (TL.map D.str)) true) e12 e13, p2, by omega, ?_⟩
      · generalize (List.range n).map (fun i : Nat => D.int i) = RG at *
        have c13 : (decide (c % 14 = 13) && !TL.isEmpty) = false := by
          by_cases q1 : c % 14 = 13
          · have : TL = [] := Classical.byContradiction fun z => q13 ⟨q1, z⟩
            subst this; simp
          · simp [q1]
        have hT : TL.isEmpty = true ∨ ¬ c % 14 = 13 := by
          by_cases q1 : c % 14 = 13
          · have : TL = [] := Classical.byContradiction fun z => q13 ⟨q1, z⟩
            subst this; exact .inl rfl
          · exact .inr q1
        generalize TL.map D.str = TD at *
        generalize TL.isEmpty = TE at *
        unfold spE at *
        show execB _ (_ :: _) _ = _
        refine (b_set (v := (.lst TD, true)) (z1 := ⟨_, os⟩) (by simp [intO, cp]; rfl)).trans ?_
        refine (b_skip ?_).trans ?_
        · rcases hT with rfl | q1
          · by_cases q1 : c % 14 = 13
            · simp [q1, qn]
            · simp [q1]
          · simp [q1]
        refine (b_skip (by simp [q11])).trans ?_
        refine (b_go (z1 := ⟨_, os⟩) (by simp [ixl, en, rg]; exact lp)).trans ?_
        simp
theorem call_spoilt (h : ∀ x ∈ ds, Thg x) (hl : ds.length < 900) : ∃ ds', (∀ x ∈ ds', Thg x) ∧ ds'.length ≤ ds.length + 7 ∧ call T (k + 1) ix_law_spoilt [.lst ds, .int c, .int m] os = .ok (.lst ds', true) os := by
  obtain ⟨a, ha, x1⟩ := sp_x1 (k := k) (ds := ds) (c := c) (m := m) (os := os)
  obtain ⟨NL, n1, n2, x2⟩ := sp_x2 (k := k) (ds := ds) (c := c) (m := m) (os := os) ha h hl
  obtain ⟨A, hA, B, hB, x3⟩ := sp_x3 (k := k) (ds := ds) (c := c) (m := m) (os := os) (e3 := .val (.int a) false) n1
  obtain ⟨E, F, e9, hE, hF, x4⟩ := sp_x4 (k := k) (ds := ds) (c := c) (m := m) (os := os) (e3 := .val (.int a) false) (e4 := .val (.lst (NL.map D.str)) true) (A := A) (B := B)
  obtain ⟨ds', z, r1, r2, x5⟩ := sp_x5 (k := k) (ds := ds) (c := c) (m := m) (os := os) (a := a) (A := A) (B := B) (e4 := .val (.lst (NL.map D.str)) true) (e9 := e9) h hl ha (n2 A hA) (sm_thg (n2 A hA) (n2 B hB) hE hF) rfl
  refine ⟨ds', r1, r2, ?_⟩
  have x := b_split 3 x1 (b_split 2 x2 (b_split 2 x3 (b_split 5 x4 x5)))
  rw [cl_law_spoilt rfl]
  generalize ir_law_spoilt = IR at *
  simp [x]
end
end
end Vi

namespace Vi
open PySem L2
noncomputable section
open Classical
theorem good_thg {s : Pst} (g : s.good) : Thg (stD s) := by
  have l12 : ∀ {t : Str}, Nam t → t.length ≤ 1000 := fun h => by have := nam_len h; omega
  obtain ⟨g1, g2, g3⟩ := g
  cases s with
  | take n k => exact .stp _ _ _ (by decide +kernel) (l12 g1) (fun x hx => by rw [List.mem_singleton.mp hx]; exact .s _ (l12 g3))
  | only n a lo hi =>
    have a1 := l12 (g2 a (by simp [Pst.fd]))
    refine .stp _ _ _ (by decide +kernel) (l12 g1) (fun x hx => ?_)
    simp only [List.mem_cons, List.not_mem_nil, or_false] at hx
    rcases hx with rfl | rfl | rfl
    · exact .s _ a1
    · exact .i _
    · exact .i _
  | turn n a lo hi =>
    have a1 := l12 (g2 a (by simp [Pst.fd]))
    refine .stp _ _ _ (by decide +kernel) (l12 g1) (fun x hx => ?_)
    simp only [List.mem_cons, List.not_mem_nil, or_false] at hx
    rcases hx with rfl | rfl | rfl
    · exact .s _ a1
    · exact .i _
    · exact .i _
  | both n a b =>
    have a1 := l12 (g2 a (by simp [Pst.fd]))
    have b1 := l12 (g2 b (by simp [Pst.fd]))
    refine .stp _ _ _ (by decide +kernel) (l12 g1) (fun x hx => ?_)
    simp only [List.mem_cons, List.not_mem_nil, or_false] at hx
    rcases hx with rfl | rfl
    · exact .s _ a1
    · exact .s _ b1
  | join n a b w =>
    have a1 := l12 (g2 a (by simp [Pst.fd]))
    have b1 := l12 (g2 b (by simp [Pst.fd]))
    refine .stp _ _ _ (by decide +kernel) (l12 g1) (fun x hx => ?_)
    simp only [List.mem_cons, List.not_mem_nil, or_false] at hx
    rcases hx with rfl | rfl | rfl
    · exact .s _ a1
    · exact .s _ b1
    · exact .i _
  | each n a y z v =>
    have a1 := l12 (g2 a (by simp [Pst.fd]))
    refine .stp _ _ _ (by decide +kernel) (l12 g1) (fun x hx => ?_)
    simp only [List.mem_cons, List.not_mem_nil, or_false] at hx
    rcases hx with rfl | rfl | rfl | rfl
    · exact .s _ a1
    · exact .s _ (tal_nam g3.1)
    · exact .i _
    · exact .i _
  | gap n a y v =>
    have a1 := l12 (g2 a (by simp [Pst.fd]))
    refine .stp _ _ _ (by decide +kernel) (l12 g1) (fun x hx => ?_)
    simp only [List.mem_cons, List.not_mem_nil, or_false] at hx
    rcases hx with rfl | rfl | rfl
    · exact .s _ a1
    · exact .s _ (tal_nam g3.1)
    · exact .i _
theorem plan_thg : ∀ {W : List (Str × Int)} {P : List Pst}, PlanOK W P → ∀ x ∈ P.map stD, Thg x
  | W, [], _ => fun x hx => by simp at hx
  | W, s :: P, h => fun x hx => by
    rcases List.mem_cons.mp hx with rfl | hx
    · exact good_thg h.1
    · exact plan_thg h.2.2.2 x hx
/-- whatever is looked at -/
inductive Pl5 : D → Prop
  | lst {ds} (h : ∀ x ∈ ds, Thg x) : Pl5 (.lst ds)
  | tup {ds} (h : ∀ x ∈ ds, Thg x) : Pl5 (.tup ds)
  | non : Pl5 .non
theorem pl_said {d : D} (h : Pl5 d) : ∃ o, Said d o := by
  cases h with
  | @lst ds h =>
    by_cases q : ds.length ≤ 30
    · obtain ⟨o, ho⟩ := Bad.ex ds 0 [] []
      cases o with
      | none => exact ⟨_, .fine h q ho⟩
      | some j => exact ⟨_, .bad h q ho⟩
    · exact ⟨_, .long (by omega)⟩
  | tup h => exact ⟨_, .tup⟩
  | non => exact ⟨_, .non⟩
theorem pl_ne {d : D} {os : Os} (h : Pl5 d) : cmpD .ne os d d = some false := by
  cases h with
  | lst h =>
    obtain ⟨m, h1, h2⟩ := dep_lstN fun d hd => thg_dep (h d hd)
    exact q_neself rfl rfl h1 (by omega)
  | tup h =>
    obtain ⟨m, h1, h2⟩ := dep_tupN fun d hd => thg_dep (h d hd)
    exact q_neself rfl rfl h1 (by omega)
  | non => exact q_neself rfl rfl (a := 0) rfl (by omega)
theorem law_tail {NS d : D} {e1 e3 e4 e5 e6 : Ent} {f2 : Bool} {os : Os} (h : Pl5 d) : ∃ z, execB (T.cf 9) (ir_law.drop 8) ⟨[.val NS false, e1, .val d f2, e3, e4, e5, e6, .no, .no, .no, .no], os⟩ = .ok (.ret (.bl true) false) ⟨z, os⟩ := by
  obtain ⟨o, ho⟩ := pl_said h
  obtain ⟨fr1, c1⟩ := call_lbad (k := 6) (os := os) ho
  obtain ⟨fr2, c2⟩ := call_said (k := 1) (os := os) ho
  have ne := pl_ne (os := os) h
  have i0 : ∀ x y : D, atI [x, y] 0 = some x := fun x y => at0
  have i1 : ∀ x y : D, atI [x, y] 1 = some y := fun x y => at1
  have ixt : ∀ LL i, ixD os (.tup LL) (.int i) = atI LL i := fun _ i => rfl
  have ixl : ∀ LL i, ixD os (.lst LL) (.int i) = atI LL i := fun _ i => rfl
  have x7 : ∃ f7, execB (T.cf 9) ((ir_law.drop 8).take 1) ⟨[.val NS false, e1, .val d f2, e3, e4, e5, e6, .no, .no, .no, .no], os⟩ = .ok .next ⟨[.val NS false, e1, .val d f2, e3, e4, e5, e6, .val d f7, .no, .no, .no], os⟩ := by
    cases h with
    | lst h => exact ⟨true, by simp [ir_law, isD]⟩
    | tup h => exact ⟨false, by simp [ir_law, isD, D.cell]⟩
    | non => exact ⟨false, by simp [ir_law, isD, D.cell]⟩
  obtain ⟨f7, x7⟩ := x7
  obtain ⟨B, pl, hB⟩ : ∃ (B : Bool) (pl : D), saidD o = .tup [.bl B, pl] := by
    rcases o with _ | _ | j <;> exact ⟨_, _, rfl⟩
  have x8 : ∃ g2, execB (T.cf 9) (((ir_law.drop 8).drop 1).take 1) ⟨[.val NS false, e1, .val d f2, e3, e4, e5, e6, .val d f7, .no, .no, .no], os⟩ = .ok .next ⟨[.val NS false, e1, .val d g2, e3, e4, e5, e6, .val d f7, .val (.bl B) false, .val pl false, .no], os⟩ := by
    rw [hB] at c1
    refine ⟨if (f2 && d.cell) = true then false else f2, ?_⟩
    by_cases q : (f2 && d.cell) = true
    · rw [if_pos q]
      simp only [Bool.and_eq_true] at q
      obtain ⟨rfl, q⟩ := q
      simp [ir_law, q, c1]
    · rw [if_neg q]
      have q' : f2 = true → d.cell = false := by intro e; subst e; simpa using q
      by_cases e : f2 = true
      · subst e
        simp [ir_law, q' rfl, c1]
      · have e : f2 = false := by simpa using e
        subst e
        simp [ir_law, c1]
  obtain ⟨g2, x8⟩ := x8
  obtain ⟨R, hR⟩ : ∃ R, R = foundD o := ⟨_, rfl⟩
  rw [← hR] at c2
  have x9 : ∃ g7, execB (T.cf 9) ((((ir_law.drop 8).drop 1).drop 1).take 1) ⟨[.val NS false, e1, .val d g2, e3, e4, e5, e6, .val d f7, .val (.bl B) false, .val pl false, .no], os⟩ = .ok .next ⟨[.val NS false, e1, .val d g2, e3, e4, e5, e6, .val d g7, .val (.bl B) false, .val pl false, .val R fr2], os⟩ := by
    refine ⟨if (f7 && d.cell) = true then false else f7, ?_⟩
    by_cases q : (f7 && d.cell) = true
    · rw [if_pos q]
      simp only [Bool.and_eq_true] at q
      obtain ⟨rfl, q⟩ := q
      simp [ir_law, q, c2]
    · rw [if_neg q]
      have q' : f7 = true → d.cell = false := by intro e; subst e; simpa using q
      by_cases e : f7 = true
      · subst e
        simp [ir_law, q' rfl, c2]
      · have e : f7 = false := by simpa using e
        subst e
        simp [ir_law, c2]
  obtain ⟨g7, x9⟩ := x9
  have x10 : execB (T.cf 9) ((((ir_law.drop 8).drop 1).drop 1).drop 1) ⟨[.val NS false, e1, .val d g2, e3, e4, e5, e6, .val d g7, .val (.bl B) false, .val pl false, .val R fr2], os⟩ = .ok (.ret (.bl true) false) ⟨[.val NS false, e1, .val d g2, e3, e4, e5, e6, .val d g7, .val (.bl B) false, .val pl false, .val R fr2], os⟩ := by
    have f0 : fnD .int os [.bl false] = some (.int 0, false) := rfl
    have f1 : fnD .int os [.bl true] = some (.int 1, false) := rfl
    have s1 : cmpD .is os (.bl true) (.bl true) = some true := rfl
    have s2 : cmpD .is os .non .non = some true := rfl
    have s3 : ∀ j, cmpD .is os (.int j) .non = some false := fun _ => rfl
    rcases o with _ | _ | j
    · cases hB
      simp only [foundD] at hR
      subst hR
      show execB _ (_ :: _) _ = _
      refine (b_skip (by simp [ne, ixt, ixl, i0, i1, f0, f1])).trans ?_
      refine b_take (by simp) ?_
      simp [ixt, i1, s1]
    · cases hB
      simp only [foundD] at hR
      subst hR
      show execB _ (_ :: _) _ = _
      refine (b_skip (by simp [ne, ixt, ixl, i0, i1, f0, f1])).trans ?_
      refine (b_skip (by simp)).trans ?_
      refine b_take (by simp [s2]) ?_
      simp [ixt, i1, plcD, s2]
    · cases hB
      simp only [foundD] at hR
      subst hR
      have cw : call T (8 + 1) ix_law_whole [.int (j : Int)] os = .ok (.bl true, false) os := by simp [cl_law_whole, ir_law_whole, isD]
      show execB _ (_ :: _) _ = _
      refine (b_skip (by simp [ne, ixt, ixl, i0, i1, f0, f1])).trans ?_
      refine (b_skip (by simp)).trans ?_
      refine (b_skip (by simp [s3])).trans ?_
      refine b_ret ?_
      simp [ixt, i1, plcD, cw]
  exact ⟨_, b_split 1 x7 (b_split 1 x8 (b_split 1 x9 x10))⟩
def chS (s : Str) (i : Nat) : Str := ⟨#[s.cps.toList.getD i 0]⟩
theorem chS_ix {os : Os} {s : Str} {i : Nat} (h : s.length ≤ 1000) (hi : i < s.length) : ixD os (.str s) (.int i) = some (.str (chS s i)) := by
  have hl : s.cps.toList.length = s.length := by simp [Str.length]
  have hi' : i < s.cps.toList.length := by omega
  simp only [ixD]
  rw [if_pos (show s.length ≤ sizeLine from by have : sizeLine = 16777216 := rfl; omega), atI_nat hi']
  unfold chS
  rw [List.getD_eq_getElem?_getD, List.getElem?_eq_getElem hi']; rfl
abbrev lwE (NS d : D) (m c : Int) (f2 : Bool) (e4 e5 e6 : Ent) : List Ent := [.val NS false, .val (.int m) false, .val d f2, .val (.int c) false, e4, e5, e6, .no, .no, .no, .no]
theorem law_mid {NS : D} {ds : List D} {m c : Int} {f2 : Bool} {os : Os} (h : ∀ x ∈ ds, Thg x) : ∃ d g2 e4 e5 e6, Pl5 d ∧ execB (T.cf 9) ((ir_law.drop 7).take 1) ⟨lwE NS (.lst ds) m c f2 .no .no .no, os⟩ = .ok .next ⟨lwE NS d m c g2 e4 e5 e6, os⟩ := by
  by_cases q : c % 15 = 3
  · obtain ⟨n, hn, en⟩ : ∃ n : Nat, n ≤ 31 ∧ (n : Int) = 30 + c / 15 % 2 := ⟨(30 + c / 15 % 2).toNat, by omega, by omega⟩
    have rg : srcOf os .range [.int (n : Int)] = some ((List.range n).map fun i : Nat => D.int i) := by
      rw [src_range1 (by omega) (by omega)]; simp
    obtain ⟨SL, hSL, x5⟩ : ∃ SL : List D, (∀ x ∈ SL, Thg x) ∧ ∀ f2, compK (.nm 6) .range yesZ (evalE (T.cf 9) ir_law_e1) [.int (n : Int)] ⟨lwE NS (.lst ds) m c f2 (.val (.int n) false) .no .no, os⟩ = .ok (.lst SL, true) ⟨lwE NS (.lst ds) m c f2 (.val (.int n) false) .no .no, os⟩ := by
      refine ⟨(List.range n).map fun i : Nat => .tup [.str S_take, .str (S_n ++ chS S_abcdefgh (i % 8) ++ chS S_abcd (i / 8)), .str S_k], fun x hx => ?_, fun f2 => ?_⟩
      · obtain ⟨i, hi, rfl⟩ := List.mem_map.mp hx
        refine .stp _ _ _ (by decide +kernel) ?_ (fun x hx => by rw [List.mem_singleton.mp hx]; exact .s _ (by decide +kernel))
        rw [len_app, len_app, show S_n.length = 1 from by decide +kernel]
        show 1 + 1 + 1 ≤ 1000
        omega
      · rw [compK_tyA (L := List.range n) (en := fun i : Nat => D.int i) (E1 := fun i : Nat => lwE NS (.lst ds) m c f2 (.val (.int n) false) .no (.val (.int i) false)) (f := fun i : Nat => .tup [.str S_take, .str (S_n ++ chS S_abcdefgh (i % 8) ++ chS S_abcd (i / 8)), .str S_k]) rg (by simp; omega) (fun x _ => rfl) (fun x _ => rfl) ?_]
        · rfl
        · intro i hi
          have hi' : i < n := List.mem_range.mp hi
          have h1 := chS_ix (os := os) (s := S_abcdefgh) (i := i % 8) (by decide +kernel) (by rw [show S_abcdefgh.length = 8 from by decide +kernel]; omega)
          have h2 := chS_ix (os := os) (s := S_abcd) (i := i / 8) (by decide +kernel) (by rw [show S_abcd.length = 4 from by decide +kernel]; omega)
          have a1 : binD .add os (.str S_n) (.str (chS S_abcdefgh (i % 8))) = some (.str (S_n ++ chS S_abcdefgh (i % 8)), false) := n_adds (by rw [show S_n.length = 1 from by decide +kernel]; show 1 + 1 ≤ 16777216; omega)
          have a2 : binD .add os (.str (S_n ++ chS S_abcdefgh (i % 8))) (.str (chS S_abcd (i / 8))) = some (.str (S_n ++ chS S_abcdefgh (i % 8) ++ chS S_abcd (i / 8)), false) := n_adds (by rw [len_app, show S_n.length = 1 from by decide +kernel]; show 1 + 1 + 1 ≤ 16777216; omega)
          refine ⟨false, ?_⟩
          unfold lwE
          have c1 : ((i % 8 : Nat) : Int) = (i : Int) % 8 := by omega
          have c2 : ((i / 8 : Nat) : Int) = (i : Int) / 8 := by omega
          rw [c1] at h1
          rw [c2] at h2
          generalize S_n ++ chS S_abcdefgh (i % 8) ++ chS S_abcd (i / 8) = V2 at *
          generalize S_n ++ chS S_abcdefgh (i % 8) = V1 at *
          generalize chS S_abcdefgh (i % 8) = U1 at *
          generalize chS S_abcd (i / 8) = U2 at *
          simp [ir_law_e1, h1, h2, a1, a2]
    obtain ⟨d, hd, ed⟩ : ∃ d, Pl5 d ∧ atI [D.tup ds, .non, .lst SL] (c / 30 % 3) = some d := by
      have p1 := Int.emod_nonneg (c / 30) (show (3 : Int) ≠ 0 by omega)
      have p2 := Int.emod_lt_of_pos (c / 30) (show (0 : Int) < 3 by omega)
      generalize c / 30 % 3 = r at *
      have : r = 0 ∨ r = 1 ∨ r = 2 := by omega
      rcases this with rfl | rfl | rfl
      · exact ⟨_, .tup h, at0⟩
      · exact ⟨_, .non, at1⟩
      · exact ⟨_, .lst hSL, at2⟩
    have ixl : ∀ LL i, ixD os (.lst LL) (.int i) = atI LL i := fun _ i => rfl
    have ft : fnD .tuple os [.lst ds] = some (.tup ds, false) := rfl
    have x5 := x5 f2
    refine ⟨d, false, .val (.int n) false, .val (.lst SL) false, .no, hd, ?_⟩
    unfold lwE at *
    show execB _ (_ :: _) _ = _
    refine (b_then (z1 := ⟨[.val NS false, .val (.int m) false, .val d false, .val (.int c) false, .val (.int n) false, .val (.lst SL) false, .no, .no, .no, .no, .no], os⟩) (by simp [q]) ?_).trans ?_
    · show execB _ (_ :: _) _ = _
      refine (b_set (v := (.int n, false)) (z1 := ⟨_, os⟩) (by simp [← en]; rfl)).trans ?_
      refine (b_set (v := (.lst SL, true)) (z1 := ⟨_, os⟩) (by simp; exact x5)).trans ?_
      refine (b_set (v := (d, false)) (z1 := ⟨[.val NS false, .val (.int m) false, .val (.lst ds) f2, .val (.int c) false, .val (.int n) false, .val (.lst SL) false, .no, .no, .no, .no, .no], os⟩) (by simp [ft, ixl, ed, D.cell])).trans ?_
      simp
    · simp
  · exact ⟨_, f2, .no, .no, .no, .lst h, by
      unfold lwE
      show execB _ (_ :: _) _ = _
      refine (b_skip (by simp [q])).trans ?_
      simp⟩
theorem law_run (ns : List Int) (hb : ∀ z ∈ ns, Builtin.Int.intBits z ≤ 1048576) : ∃ os, call T 10 ix_law [.lst (nums ns)] [] = .ok (.bl true, false) os := by
  have cel := fun i : Nat => cell_law (k := 8) (n := i) (ns := ns) (os := [])
  have c0 : call T 9 ix_law_at [.lst (nums ns), .int 0] [] = .ok (.int (ns.getD 0 0), false) [] := cel 0
  have c12 : call T 9 ix_law_at [.lst (nums ns), .int 12] [] = .ok (.int (ns.getD 12 0), false) [] := cel 12
  have c13 : call T 9 ix_law_at [.lst (nums ns), .int 13] [] = .ok (.int (ns.getD 13 0), false) [] := cel 13
  have c14 : call T 9 ix_law_at [.lst (nums ns), .int 14] [] = .ok (.int (ns.getD 14 0), false) [] := cel 14
  have c15 : call T 9 ix_law_at [.lst (nums ns), .int 15] [] = .ok (.int (ns.getD 15 0), false) [] := cel 15
  clear cel
  have pls : ∀ (most : Int), (most = 12 ∨ most = 30) → ∃ P : List Pst, P.length ≤ 30 ∧ PlanOK [] P ∧ (P.map Pst.nm).Nodup ∧ call T 9 ix_law_plan [.lst (nums ns), .int 1, .int most] [] = .ok (.lst (P.map stD), true) [] := fun most h => call_plan (k := 6) (first := 1) (ns := ns) (most := most) (os := []) hb h
  generalize ns.getD 0 0 = v0 at *
  generalize ns.getD 12 0 = v12 at *
  generalize ns.getD 13 0 = v13 at *
  generalize ns.getD 14 0 = v14 at *
  generalize ns.getD 15 0 = v15 at *
  generalize nums ns = NS at *
  obtain ⟨most, hm, x0⟩ : ∃ most : Int, (most = 12 ∨ most = 30) ∧ execB (T.cf 9) (ir_law.take 3) ⟨[.val (.lst NS) false, .no, .no, .no, .no, .no, .no, .no, .no, .no, .no], []⟩ = .ok .next ⟨[.val (.lst NS) false, .val (.int most) false, .no, .no, .no, .no, .no, .no, .no, .no, .no], []⟩ := by
    by_cases q : v0 % 9 = 4
    · refine ⟨30, .inr rfl, ?_⟩
      show execB _ (_ :: _) _ = _
      refine (b_skip (by simp)).trans ?_
      refine (b_set (v := (.int 12, false)) (z1 := ⟨_, []⟩) (by simp; rfl)).trans ?_
      refine (b_then (z1 := ⟨_, []⟩) (by simp [c0, q]) (by simp; rfl)).trans ?_
      simp
    · refine ⟨12, .inl rfl, ?_⟩
      show execB _ (_ :: _) _ = _
      refine (b_skip (by simp)).trans ?_
      refine (b_set (v := (.int 12, false)) (z1 := ⟨_, []⟩) (by simp; rfl)).trans ?_
      refine (b_skip (by simp [c0, q])).trans ?_
      simp
  obtain ⟨P, p1, p2, _, cp⟩ := pls most hm
  have hP := plan_thg p2
  have x1 : execB (T.cf 9) ((ir_law.drop 3).take 2) ⟨[.val (.lst NS) false, .val (.int most) false, .no, .no, .no, .no, .no, .no, .no, .no, .no], []⟩ = .ok .next ⟨lwE (.lst NS) (.lst (P.map stD)) most (v0 / 9) true .no .no .no, []⟩ := by
    unfold lwE
    generalize P.map stD = PD at *
    show execB _ (_ :: _) _ = _
    refine (b_set (v := (.lst PD, true)) (z1 := ⟨_, []⟩) (by simp [cp]; rfl)).trans ?_
    refine (b_set (v := (.int (v0 / 9), false)) (z1 := ⟨_, []⟩) (by simp [c0]; rfl)).trans ?_
    simp
  obtain ⟨d1, h1, l1, x2⟩ : ∃ d1, (∀ x ∈ d1, Thg x) ∧ d1.length ≤ 37 ∧ execB (T.cf 9) (((ir_law.drop 3).drop 2).take 1) ⟨lwE (.lst NS) (.lst (P.map stD)) most (v0 / 9) true .no .no .no, []⟩ = .ok .next ⟨lwE (.lst NS) (.lst d1) most (v0 / 9) true .no .no .no, []⟩ := by
    have lp : (P.map stD).length ≤ 30 := by simpa using p1
    generalize P.map stD = PD at *
    by_cases q : 0 < v0 / 9 % 5
    · obtain ⟨d1, h1, l1, cs⟩ := call_spoilt (k := 8) (ds := PD) (c := v12) (m := v13) (os := []) hP (by omega)
      refine ⟨d1, h1, by omega, ?_⟩
      unfold lwE
      show execB _ (_ :: _) _ = _
      refine (b_then (z1 := ⟨_, []⟩) (by simp [q]) (by simp [c12, c13, cs, D.cell]; rfl)).trans ?_
      simp
    · refine ⟨PD, hP, by omega, ?_⟩
      unfold lwE
      show execB _ (_ :: _) _ = _
      refine (b_skip (by simp [q])).trans ?_
      simp
  obtain ⟨d2, h2, x3⟩ : ∃ d2, (∀ x ∈ d2, Thg x) ∧ execB (T.cf 9) ((((ir_law.drop 3).drop 2).drop 1).take 1) ⟨lwE (.lst NS) (.lst d1) most (v0 / 9) true .no .no .no, []⟩ = .ok .next ⟨lwE (.lst NS) (.lst d2) most (v0 / 9) true .no .no .no, []⟩ := by
    by_cases q : v0 / 9 % 5 = 2 ∧ (d1.length : Int) < 30
    · obtain ⟨q1, q2⟩ := q
      obtain ⟨d2, h2, l2, cs⟩ := call_spoilt (k := 8) (ds := d1) (c := v14) (m := v15) (os := []) h1 (by omega)
      refine ⟨d2, h2, ?_⟩
      unfold lwE
      show execB _ (_ :: _) _ = _
      refine (b_then (z1 := ⟨_, []⟩) (by simp [q1, q2]) (by simp [c14, c15, cs, D.cell]; rfl)).trans ?_
      simp
    · refine ⟨d1, h1, ?_⟩
      unfold lwE
      show execB _ (_ :: _) _ = _
      refine (b_skip ?_).trans ?_
      · by_cases q1 : v0 / 9 % 5 = 2
        · have q2 : ¬ (d1.length : Int) < 30 := fun z => q ⟨q1, z⟩
          simp [q1, q2]
        · simp [q1]
      · simp
  obtain ⟨d3, g2, e4, e5, e6, h3, x4⟩ := law_mid (NS := .lst NS) (m := most) (c := v0 / 9) (f2 := true) (os := []) h2
  obtain ⟨z, x5⟩ := law_tail (NS := .lst NS) (e1 := .val (.int most) false) (e3 := .val (.int (v0 / 9)) false) (e4 := e4) (e5 := e5) (e6 := e6) (f2 := g2) (os := []) h3
  have x := b_split 3 x0 (b_split 2 x1 (b_split 1 x2 (b_split 1 x3 (b_split 1 x4 x5))))
  refine ⟨[], ?_⟩
  rw [cl_law rfl]
  generalize ir_law = IR at *
  simp [x]
theorem law_true (ns : List Int) (hl : ns.length ≤ 63) (hb : ∀ z ∈ ns, Builtin.Int.intBits z ≤ 1048576) : okTrue (call T 10 ix_law [.lst (ns.map D.int)] []) := by
  refine Exists.elim (law_run ns hb) fun os h => ?_
  show okTrue (call T 10 ix_law [.lst (nums ns)] [])
  rw [h]
  rfl
end
end Vi

namespace Vi
open PySem L2
noncomputable section
set_option maxHeartbeats 0 in
theorem all_mk {l : PySem.W.OpenLaw} {w : World} {K : PySem.W.Frag} {h : Heap} {mg : Str → Option Value} {fa0 : Addr} (X : K.In h) (G : h.Ns mainGlobals mg) (hfa : mg "law" = some (.ref fa0))
    {f0 f1 f2 f3 f4 f5 f6 f7 f8 f9 f10 f11 f12 f13 f14 f15 f16 f17 f18 f19 f20 f21 f22 f23 f24 f25 f26 f27 f28 f29 f30 f31 C0 C1 C2 C3 C4 C5 C6 : Addr} {od0 an0 od1 an1 od2 an2 od3 an3 od4 an4 od5 an5 od6 an6 od7 an7 od8 an8 od9 an9 od10 an10 od11 an11 od12 an12 od13 an13 od14 an14 od15 an15 od16 an16 od17 an17 od18 an18 od19 an19 od20 an20 od21 an21 od22 an22 od23 an23 od24 an24 od25 an25 od26 an26 od27 an27 od28 an28 od29 an29 od30 an30 od31 an31 : Option Addr} {sl0 sl1 sl2 sl3 sl4 sl5 sl6 sl7 sl8 sl9 sl10 sl11 sl12 sl13 sl14 sl15 sl16 sl17 sl18 sl19 sl20 sl21 sl22 sl23 sl24 sl25 sl26 sl27 sl28 sl29 sl30 sl31 : Array (Option Value)} {oc0 kV0 dc0 pm0 cd0 ct0 oc1 kV1 dc1 pm1 cd1 ct1 oc2 kV2 dc2 pm2 cd2 ct2 oc3 kV3 dc3 pm3 cd3 ct3 oc4 kV4 dc4 pm4 cd4 ct4 oc5 kV5 dc5 pm5 cd5 ct5 oc6 kV6 dc6 pm6 cd6 ct6 oc7 kV7 dc7 pm7 cd7 ct7 oc8 kV8 dc8 pm8 cd8 ct8 oc9 kV9 dc9 pm9 cd9 ct9 oc10 kV10 dc10 pm10 cd10 ct10 oc11 kV11 dc11 pm11 cd11 ct11 oc12 kV12 dc12 pm12 cd12 ct12 oc13 kV13 dc13 pm13 cd13 ct13 oc14 kV14 dc14 pm14 cd14 ct14 oc15 kV15 dc15 pm15 cd15 ct15 oc16 kV16 dc16 pm16 cd16 ct16 oc17 kV17 dc17 pm17 cd17 ct17 oc18 kV18 dc18 pm18 cd18 ct18 oc19 kV19 dc19 pm19 cd19 ct19 oc20 kV20 dc20 pm20 cd20 ct20 oc21 kV21 dc21 pm21 cd21 ct21 oc22 kV22 dc22 pm22 cd22 ct22 oc23 kV23 dc23 pm23 cd23 ct23 oc24 kV24 dc24 pm24 cd24 ct24 oc25 kV25 dc25 pm25 cd25 ct25 oc26 kV26 dc26 pm26 cd26 ct26 oc27 kV27 dc27 pm27 cd27 ct27 oc28 kV28 dc28 pm28 cd28 ct28 oc29 kV29 dc29 pm29 cd29 ct29 oc30 kV30 dc30 pm30 cd30 ct30 oc31 kV31 dc31 pm31 cd31 ct31 : Value}
    {g4 : Addr} {nm4 qn4 : Str} {N4 : Addr} {bs4 bm4 : List Value} {sn4 : _} {su4 : _} {ab4 : _} {co4 : _} {dd4 : _} {ka4 kb4 kc_4 kd4 ke4 : _} {goc4 gkV4 gdc4 gpm4 gcd4 gct4 : Value} {god4 gan4 : Option Addr} {gsl4 : Array (Option Value)}
    {tk0 tk1 tk2 tk3 tk4 tk5 tk6 tk7 tk8 : Nat}
    (a0 : PySem.W.nsIn K mainGlobals "is_whole" = some (some (.ref f0)))
    (l0 : K.lookup f0 = some ⟨oc0, od0, .func (PySem.W.fnOf "is_whole" "is_whole" (defArgs (top 12)) (defBody (top 12)) (defScope (top 12)) .none kV0 dc0 pm0 an0 cd0 ct0), sl0⟩)
    (c0 : PySem.W.codeIn K cd0 "is_whole" = true)
    (k0 : PySem.W.keepIn K (.ref f0) = true)
    (a1 : PySem.W.nsIn K mainGlobals "is_among" = some (some (.ref f1)))
    (l1 : K.lookup f1 = some ⟨oc1, od1, .func (PySem.W.fnOf "is_among" "is_among" (defArgs (top 13)) (defBody (top 13)) (defScope (top 13)) .none kV1 dc1 pm1 an1 cd1 ct1), sl1⟩)
    (c1 : PySem.W.codeIn K cd1 "is_among" = true)
    (k1 : PySem.W.keepIn K (.ref f1) = true)
    (a2 : PySem.W.nsIn K mainGlobals "is_name" = some (some (.ref f2)))
    (l2 : K.lookup f2 = some ⟨oc2, od2, .func (PySem.W.fnOf "is_name" "is_name" (defArgs (top 14)) (defBody (top 14)) (defScope (top 14)) .none kV2 dc2 pm2 an2 cd2 ct2), sl2⟩)
    (c2 : PySem.W.codeIn K cd2 "is_name" = true)
    (k2 : PySem.W.keepIn K (.ref f2) = true)
    (a3 : PySem.W.nsIn K mainGlobals "is_amount" = some (some (.ref f3)))
    (l3 : K.lookup f3 = some ⟨oc3, od3, .func (PySem.W.fnOf "is_amount" "is_amount" (defArgs (top 15)) (defBody (top 15)) (defScope (top 15)) .none kV3 dc3 pm3 an3 cd3 ct3), sl3⟩)
    (c3 : PySem.W.codeIn K cd3 "is_amount" = true)
    (k3 : PySem.W.keepIn K (.ref f3) = true)
    (a4 : PySem.W.nsIn K mainGlobals "is_tally" = some (some (.ref f4)))
    (l4 : K.lookup f4 = some ⟨oc4, od4, .func (PySem.W.fnOf "is_tally" "is_tally" (defArgs (top 21)) (defBody (top 21)) (defScope (top 21)) .none kV4 dc4 pm4 an4 cd4 ct4), sl4⟩)
    (c4 : PySem.W.codeIn K cd4 "is_tally" = true)
    (k4 : PySem.W.keepIn K (.ref f4) = true)
    (a5 : PySem.W.nsIn K mainGlobals "is_stream" = some (some (.ref f5)))
    (l5 : K.lookup f5 = some ⟨oc5, od5, .func (PySem.W.fnOf "is_stream" "is_stream" (defArgs (top 22)) (defBody (top 22)) (defScope (top 22)) .none kV5 dc5 pm5 an5 cd5 ct5), sl5⟩)
    (c5 : PySem.W.codeIn K cd5 "is_stream" = true)
    (k5 : PySem.W.keepIn K (.ref f5) = true)
    (a6 : PySem.W.nsIn K mainGlobals "is_range" = some (some (.ref f6)))
    (l6 : K.lookup f6 = some ⟨oc6, od6, .func (PySem.W.fnOf "is_range" "is_range" (defArgs (top 23)) (defBody (top 23)) (defScope (top 23)) .none kV6 dc6 pm6 an6 cd6 ct6), sl6⟩)
    (c6 : PySem.W.codeIn K cd6 "is_range" = true)
    (k6 : PySem.W.keepIn K (.ref f6) = true)
    (a7 : PySem.W.nsIn K mainGlobals "is_turn" = some (some (.ref f7)))
    (l7 : K.lookup f7 = some ⟨oc7, od7, .func (PySem.W.fnOf "is_turn" "is_turn" (defArgs (top 24)) (defBody (top 24)) (defScope (top 24)) .none kV7 dc7 pm7 an7 cd7 ct7), sl7⟩)
    (c7 : PySem.W.codeIn K cd7 "is_turn" = true)
    (k7 : PySem.W.keepIn K (.ref f7) = true)
    (a8 : PySem.W.nsIn K mainGlobals "is_window" = some (some (.ref f8)))
    (l8 : K.lookup f8 = some ⟨oc8, od8, .func (PySem.W.fnOf "is_window" "is_window" (defArgs (top 25)) (defBody (top 25)) (defScope (top 25)) .none kV8 dc8 pm8 an8 cd8 ct8), sl8⟩)
    (c8 : PySem.W.codeIn K cd8 "is_window" = true)
    (k8 : PySem.W.keepIn K (.ref f8) = true)
    (a9 : PySem.W.nsIn K mainGlobals "is_telling" = some (some (.ref f9)))
    (l9 : K.lookup f9 = some ⟨oc9, od9, .func (PySem.W.fnOf "is_telling" "is_telling" (defArgs (top 26)) (defBody (top 26)) (defScope (top 26)) .none kV9 dc9 pm9 an9 cd9 ct9), sl9⟩)
    (c9 : PySem.W.codeIn K cd9 "is_telling" = true)
    (k9 : PySem.W.keepIn K (.ref f9) = true)
    (a10 : PySem.W.nsIn K mainGlobals "is_step" = some (some (.ref f10)))
    (l10 : K.lookup f10 = some ⟨oc10, od10, .func (PySem.W.fnOf "is_step" "is_step" (defArgs (top 27)) (defBody (top 27)) (defScope (top 27)) .none kV10 dc10 pm10 an10 cd10 ct10), sl10⟩)
    (c10 : PySem.W.codeIn K cd10 "is_step" = true)
    (k10 : PySem.W.keepIn K (.ref f10) = true)
    (a11 : PySem.W.nsIn K mainGlobals "name_of" = some (some (.ref f11)))
    (l11 : K.lookup f11 = some ⟨oc11, od11, .func (PySem.W.fnOf "name_of" "name_of" (defArgs (top 28)) (defBody (top 28)) (defScope (top 28)) .none kV11 dc11 pm11 an11 cd11 ct11), sl11⟩)
    (c11 : PySem.W.codeIn K cd11 "name_of" = true)
    (k11 : PySem.W.keepIn K (.ref f11) = true)
    (a12 : PySem.W.nsIn K mainGlobals "feeders" = some (some (.ref f12)))
    (l12 : K.lookup f12 = some ⟨oc12, od12, .func (PySem.W.fnOf "feeders" "feeders" (defArgs (top 29)) (defBody (top 29)) (defScope (top 29)) .none kV12 dc12 pm12 an12 cd12 ct12), sl12⟩)
    (c12 : PySem.W.codeIn K cd12 "feeders" = true)
    (k12 : PySem.W.keepIn K (.ref f12) = true)
    (a13 : PySem.W.nsIn K mainGlobals "is_teller" = some (some (.ref f13)))
    (l13 : K.lookup f13 = some ⟨oc13, od13, .func (PySem.W.fnOf "is_teller" "is_teller" (defArgs (top 30)) (defBody (top 30)) (defScope (top 30)) .none kV13 dc13 pm13 an13 cd13 ct13), sl13⟩)
    (c13 : PySem.W.codeIn K cd13 "is_teller" = true)
    (k13 : PySem.W.keepIn K (.ref f13) = true)
    (a14 : PySem.W.nsIn K mainGlobals "width" = some (some (.ref f14)))
    (l14 : K.lookup f14 = some ⟨oc14, od14, .func (PySem.W.fnOf "width" "width" (defArgs (top 34)) (defBody (top 34)) (defScope (top 34)) .none kV14 dc14 pm14 an14 cd14 ct14), sl14⟩)
    (c14 : PySem.W.codeIn K cd14 "width" = true)
    (k14 : PySem.W.keepIn K (.ref f14) = true)
    (a15 : PySem.W.nsIn K mainGlobals "is_fed" = some (some (.ref f15)))
    (l15 : K.lookup f15 = some ⟨oc15, od15, .func (PySem.W.fnOf "is_fed" "is_fed" (defArgs (top 35)) (defBody (top 35)) (defScope (top 35)) .none kV15 dc15 pm15 an15 cd15 ct15), sl15⟩)
    (c15 : PySem.W.codeIn K cd15 "is_fed" = true)
    (k15 : PySem.W.keepIn K (.ref f15) = true)
    (a16 : PySem.W.nsIn K mainGlobals "checked" = some (some (.ref f16)))
    (l16 : K.lookup f16 = some ⟨oc16, od16, .func (PySem.W.fnOf "checked" "checked" (defArgs (top 36)) (defBody (top 36)) (defScope (top 36)) .none kV16 dc16 pm16 an16 cd16 ct16), sl16⟩)
    (c16 : PySem.W.codeIn K cd16 "checked" = true)
    (k16 : PySem.W.keepIn K (.ref f16) = true)
    (a17 : PySem.W.nsIn K mainGlobals "_law_at" = some (some (.ref f17)))
    (l17 : K.lookup f17 = some ⟨oc17, od17, .func (PySem.W.fnOf "_law_at" "_law_at" (defArgs (top 38)) (defBody (top 38)) (defScope (top 38)) .none kV17 dc17 pm17 an17 cd17 ct17), sl17⟩)
    (c17 : PySem.W.codeIn K cd17 "_law_at" = true)
    (k17 : PySem.W.keepIn K (.ref f17) = true)
    (a18 : PySem.W.nsIn K mainGlobals "_law_whole" = some (some (.ref f18)))
    (l18 : K.lookup f18 = some ⟨oc18, od18, .func (PySem.W.fnOf "_law_whole" "_law_whole" (defArgs (top 39)) (defBody (top 39)) (defScope (top 39)) .none kV18 dc18 pm18 an18 cd18 ct18), sl18⟩)
    (c18 : PySem.W.codeIn K cd18 "_law_whole" = true)
    (k18 : PySem.W.keepIn K (.ref f18) = true)
    (a19 : PySem.W.nsIn K mainGlobals "_law_is_name" = some (some (.ref f19)))
    (l19 : K.lookup f19 = some ⟨oc19, od19, .func (PySem.W.fnOf "_law_is_name" "_law_is_name" (defArgs (top 40)) (defBody (top 40)) (defScope (top 40)) .none kV19 dc19 pm19 an19 cd19 ct19), sl19⟩)
    (c19 : PySem.W.codeIn K cd19 "_law_is_name" = true)
    (k19 : PySem.W.keepIn K (.ref f19) = true)
    (a20 : PySem.W.nsIn K mainGlobals "_law_is_among" = some (some (.ref f20)))
    (l20 : K.lookup f20 = some ⟨oc20, od20, .func (PySem.W.fnOf "_law_is_among" "_law_is_among" (defArgs (top 41)) (defBody (top 41)) (defScope (top 41)) .none kV20 dc20 pm20 an20 cd20 ct20), sl20⟩)
    (c20 : PySem.W.codeIn K cd20 "_law_is_among" = true)
    (k20 : PySem.W.keepIn K (.ref f20) = true)
    (a21 : PySem.W.nsIn K mainGlobals "_law_called" = some (some (.ref f21)))
    (l21 : K.lookup f21 = some ⟨oc21, od21, .func (PySem.W.fnOf "_law_called" "_law_called" (defArgs (top 42)) (defBody (top 42)) (defScope (top 42)) .none kV21 dc21 pm21 an21 cd21 ct21), sl21⟩)
    (c21 : PySem.W.codeIn K cd21 "_law_called" = true)
    (k21 : PySem.W.keepIn K (.ref f21) = true)
    (a22 : PySem.W.nsIn K mainGlobals "_law_is_step" = some (some (.ref f22)))
    (l22 : K.lookup f22 = some ⟨oc22, od22, .func (PySem.W.fnOf "_law_is_step" "_law_is_step" (defArgs (top 43)) (defBody (top 43)) (defScope (top 43)) .none kV22 dc22 pm22 an22 cd22 ct22), sl22⟩)
    (c22 : PySem.W.codeIn K cd22 "_law_is_step" = true)
    (k22 : PySem.W.keepIn K (.ref f22) = true)
    (a23 : PySem.W.nsIn K mainGlobals "_law_number" = some (some (.ref f23)))
    (l23 : K.lookup f23 = some ⟨oc23, od23, .func (PySem.W.fnOf "_law_number" "_law_number" (defArgs (top 44)) (defBody (top 44)) (defScope (top 44)) .none kV23 dc23 pm23 an23 cd23 ct23), sl23⟩)
    (c23 : PySem.W.codeIn K cd23 "_law_number" = true)
    (k23 : PySem.W.keepIn K (.ref f23) = true)
    (a24 : PySem.W.nsIn K mainGlobals "_law_step" = some (some (.ref f24)))
    (l24 : K.lookup f24 = some ⟨oc24, od24, .func (PySem.W.fnOf "_law_step" "_law_step" (defArgs (top 45)) (defBody (top 45)) (defScope (top 45)) .none kV24 dc24 pm24 an24 cd24 ct24), sl24⟩)
    (c24 : PySem.W.codeIn K cd24 "_law_step" = true)
    (k24 : PySem.W.keepIn K (.ref f24) = true)
    (a25 : PySem.W.nsIn K mainGlobals "_law_wide" = some (some (.ref f25)))
    (l25 : K.lookup f25 = some ⟨oc25, od25, .func (PySem.W.fnOf "_law_wide" "_law_wide" (defArgs (top 46)) (defBody (top 46)) (defScope (top 46)) .none kV25 dc25 pm25 an25 cd25 ct25), sl25⟩)
    (c25 : PySem.W.codeIn K cd25 "_law_wide" = true)
    (k25 : PySem.W.keepIn K (.ref f25) = true)
    (a26 : PySem.W.nsIn K mainGlobals "_law_step_name" = some (some (.ref f26)))
    (l26 : K.lookup f26 = some ⟨oc26, od26, .func (PySem.W.fnOf "_law_step_name" "_law_step_name" (defArgs (top 47)) (defBody (top 47)) (defScope (top 47)) .none kV26 dc26 pm26 an26 cd26 ct26), sl26⟩)
    (c26 : PySem.W.codeIn K cd26 "_law_step_name" = true)
    (k26 : PySem.W.keepIn K (.ref f26) = true)
    (a27 : PySem.W.nsIn K mainGlobals "_law_plan" = some (some (.ref f27)))
    (l27 : K.lookup f27 = some ⟨oc27, od27, .func (PySem.W.fnOf "_law_plan" "_law_plan" (defArgs (top 48)) (defBody (top 48)) (defScope (top 48)) .none kV27 dc27 pm27 an27 cd27 ct27), sl27⟩)
    (c27 : PySem.W.codeIn K cd27 "_law_plan" = true)
    (k27 : PySem.W.keepIn K (.ref f27) = true)
    (a28 : PySem.W.nsIn K mainGlobals "_law_bad" = some (some (.ref f28)))
    (l28 : K.lookup f28 = some ⟨oc28, od28, .func (PySem.W.fnOf "_law_bad" "_law_bad" (defArgs (top 49)) (defBody (top 49)) (defScope (top 49)) .none kV28 dc28 pm28 an28 cd28 ct28), sl28⟩)
    (c28 : PySem.W.codeIn K cd28 "_law_bad" = true)
    (k28 : PySem.W.keepIn K (.ref f28) = true)
    (a29 : PySem.W.nsIn K mainGlobals "_law_spoilt" = some (some (.ref f29)))
    (l29 : K.lookup f29 = some ⟨oc29, od29, .func (PySem.W.fnOf "_law_spoilt" "_law_spoilt" (defArgs (top 50)) (defBody (top 50)) (defScope (top 50)) .none kV29 dc29 pm29 an29 cd29 ct29), sl29⟩)
    (c29 : PySem.W.codeIn K cd29 "_law_spoilt" = true)
    (k29 : PySem.W.keepIn K (.ref f29) = true)
    (a30 : PySem.W.nsIn K mainGlobals "_law_said" = some (some (.ref f30)))
    (l30 : K.lookup f30 = some ⟨oc30, od30, .func (PySem.W.fnOf "_law_said" "_law_said" (defArgs (top 51)) (defBody (top 51)) (defScope (top 51)) .none kV30 dc30 pm30 an30 cd30 ct30), sl30⟩)
    (c30 : PySem.W.codeIn K cd30 "_law_said" = true)
    (k30 : PySem.W.keepIn K (.ref f30) = true)
    (a31 : PySem.W.nsIn K mainGlobals "law" = some (some (.ref f31)))
    (l31 : K.lookup f31 = some ⟨oc31, od31, .func (PySem.W.fnOf "law" "law" (defArgs (top 52)) (defBody (top 52)) (defScope (top 52)) .none kV31 dc31 pm31 an31 cd31 ct31), sl31⟩)
    (c31 : PySem.W.codeIn K cd31 "law" = true)
    (k31 : PySem.W.keepIn K (.ref f31) = true)
    (A0 : PySem.W.nsIn K mainGlobals "FlowError" = some (some (.ref C0)))
    (xk0 : PySem.W.keepIn K (.ref C0) = true)
    (xb0 : PySem.W.subIn K (.ref C0) (.type "BaseException") = some true)
    (xt0 : PySem.W.typeIn K (.ref C0) = some (.type "type"))
    (A1 : PySem.W.nsIn K mainGlobals "BadEvent" = some (some (.ref C1)))
    (xk1 : PySem.W.keepIn K (.ref C1) = true)
    (xb1 : PySem.W.subIn K (.ref C1) (.type "BaseException") = some true)
    (xt1 : PySem.W.typeIn K (.ref C1) = some (.type "type"))
    (A2 : PySem.W.nsIn K mainGlobals "BadSlack" = some (some (.ref C2)))
    (xk2 : PySem.W.keepIn K (.ref C2) = true)
    (xb2 : PySem.W.subIn K (.ref C2) (.type "BaseException") = some true)
    (xt2 : PySem.W.typeIn K (.ref C2) = some (.type "type"))
    (A3 : PySem.W.nsIn K mainGlobals "Broken" = some (some (.ref C3)))
    (xk3 : PySem.W.keepIn K (.ref C3) = true)
    (xb3 : PySem.W.subIn K (.ref C3) (.type "BaseException") = some true)
    (xt3 : PySem.W.typeIn K (.ref C3) = some (.type "type"))
    (A4 : PySem.W.nsIn K mainGlobals "BadStep" = some (some (.ref C4)))
    (xk4 : PySem.W.keepIn K (.ref C4) = true)
    (xb4 : PySem.W.subIn K (.ref C4) (.type "BaseException") = some true)
    (xt4 : PySem.W.typeIn K (.ref C4) = some (.type "type"))
    (A5 : PySem.W.nsIn K mainGlobals "BadLine" = some (some (.ref C5)))
    (xk5 : PySem.W.keepIn K (.ref C5) = true)
    (xb5 : PySem.W.subIn K (.ref C5) (.type "BaseException") = some true)
    (xt5 : PySem.W.typeIn K (.ref C5) = some (.type "type"))
    (A6 : PySem.W.nsIn K mainGlobals "BadKeep" = some (some (.ref C6)))
    (xk6 : PySem.W.keepIn K (.ref C6) = true)
    (xb6 : PySem.W.subIn K (.ref C6) (.type "BaseException") = some true)
    (xt6 : PySem.W.typeIn K (.ref C6) = some (.type "type"))
    (np1 : PySem.W.findIn K (.ref C1) "place" = some none)
    (np6 : PySem.W.findIn K (.ref C6) "place" = some none)
    (np5 : PySem.W.findIn K (.ref C5) "place" = some none)
    (np4 : PySem.W.findIn K (.ref C4) "place" = some none)
    (np3 : PySem.W.findIn K (.ref C3) "place" = some none)
    (np2 : PySem.W.findIn K (.ref C2) "place" = some none)
    (np0 : PySem.W.findIn K (.ref C0) "place" = some none)
    (eds : PySem.W.specialIn K (.builtin "object.__class__") "__get__" = some (some (.builtin "getset_descriptor.__get__")))
    (etk : PySem.W.takesIn K (.builtin "object.__class__") = some true)
    (ega0 : PySem.W.findIn K (.ref C0) "__getattribute__" = some (some (.builtin "BaseException.__getattribute__")))
    (egt0 : PySem.W.findIn K (.ref C0) "__getattr__" = some none)
    (ehd0 : PySem.W.hasDictIn K C0 = true)
    (ecl0 : PySem.W.findIn K (.ref C0) "__class__" = some (some (.builtin "object.__class__")))
    (emr0 : PySem.W.mroIn K C0 (.type "object") = some true)
    (es0_0 : PySem.W.subIn K (.ref C0) (.ref C0) = some true)
    (ek0_0 : PySem.W.kitOne K (.ref C0) (.ref C0) = some true)
    (es0_1 : PySem.W.subIn K (.ref C0) (.ref C1) = some false)
    (ek0_1 : PySem.W.kitOne K (.ref C0) (.ref C1) = some false)
    (es0_2 : PySem.W.subIn K (.ref C0) (.ref C2) = some false)
    (ek0_2 : PySem.W.kitOne K (.ref C0) (.ref C2) = some false)
    (es0_3 : PySem.W.subIn K (.ref C0) (.ref C3) = some false)
    (ek0_3 : PySem.W.kitOne K (.ref C0) (.ref C3) = some false)
    (es0_4 : PySem.W.subIn K (.ref C0) (.ref C4) = some false)
    (ek0_4 : PySem.W.kitOne K (.ref C0) (.ref C4) = some false)
    (es0_5 : PySem.W.subIn K (.ref C0) (.ref C5) = some false)
    (ek0_5 : PySem.W.kitOne K (.ref C0) (.ref C5) = some false)
    (es0_6 : PySem.W.subIn K (.ref C0) (.ref C6) = some false)
    (ek0_6 : PySem.W.kitOne K (.ref C0) (.ref C6) = some false)
    (ev0 : PySem.W.kitOne K (.ref C0) (.type "ValueError") = some true)
    (ega1 : PySem.W.findIn K (.ref C1) "__getattribute__" = some (some (.builtin "BaseException.__getattribute__")))
    (egt1 : PySem.W.findIn K (.ref C1) "__getattr__" = some none)
    (ehd1 : PySem.W.hasDictIn K C1 = true)
    (ecl1 : PySem.W.findIn K (.ref C1) "__class__" = some (some (.builtin "object.__class__")))
    (emr1 : PySem.W.mroIn K C1 (.type "object") = some true)
    (es1_0 : PySem.W.subIn K (.ref C1) (.ref C0) = some true)
    (ek1_0 : PySem.W.kitOne K (.ref C1) (.ref C0) = some true)
    (es1_1 : PySem.W.subIn K (.ref C1) (.ref C1) = some true)
    (ek1_1 : PySem.W.kitOne K (.ref C1) (.ref C1) = some true)
    (es1_2 : PySem.W.subIn K (.ref C1) (.ref C2) = some false)
    (ek1_2 : PySem.W.kitOne K (.ref C1) (.ref C2) = some false)
    (es1_3 : PySem.W.subIn K (.ref C1) (.ref C3) = some false)
    (ek1_3 : PySem.W.kitOne K (.ref C1) (.ref C3) = some false)
    (es1_4 : PySem.W.subIn K (.ref C1) (.ref C4) = some false)
    (ek1_4 : PySem.W.kitOne K (.ref C1) (.ref C4) = some false)
    (es1_5 : PySem.W.subIn K (.ref C1) (.ref C5) = some false)
    (ek1_5 : PySem.W.kitOne K (.ref C1) (.ref C5) = some false)
    (es1_6 : PySem.W.subIn K (.ref C1) (.ref C6) = some false)
    (ek1_6 : PySem.W.kitOne K (.ref C1) (.ref C6) = some false)
    (ev1 : PySem.W.kitOne K (.ref C1) (.type "ValueError") = some true)
    (ega2 : PySem.W.findIn K (.ref C2) "__getattribute__" = some (some (.builtin "BaseException.__getattribute__")))
    (egt2 : PySem.W.findIn K (.ref C2) "__getattr__" = some none)
    (ehd2 : PySem.W.hasDictIn K C2 = true)
    (ecl2 : PySem.W.findIn K (.ref C2) "__class__" = some (some (.builtin "object.__class__")))
    (emr2 : PySem.W.mroIn K C2 (.type "object") = some true)
    (es2_0 : PySem.W.subIn K (.ref C2) (.ref C0) = some true)
    (ek2_0 : PySem.W.kitOne K (.ref C2) (.ref C0) = some true)
    (es2_1 : PySem.W.subIn K (.ref C2) (.ref C1) = some false)
    (ek2_1 : PySem.W.kitOne K (.ref C2) (.ref C1) = some false)
    (es2_2 : PySem.W.subIn K (.ref C2) (.ref C2) = some true)
    (ek2_2 : PySem.W.kitOne K (.ref C2) (.ref C2) = some true)
    (es2_3 : PySem.W.subIn K (.ref C2) (.ref C3) = some false)
    (ek2_3 : PySem.W.kitOne K (.ref C2) (.ref C3) = some false)
    (es2_4 : PySem.W.subIn K (.ref C2) (.ref C4) = some false)
    (ek2_4 : PySem.W.kitOne K (.ref C2) (.ref C4) = some false)
    (es2_5 : PySem.W.subIn K (.ref C2) (.ref C5) = some false)
    (ek2_5 : PySem.W.kitOne K (.ref C2) (.ref C5) = some false)
    (es2_6 : PySem.W.subIn K (.ref C2) (.ref C6) = some false)
    (ek2_6 : PySem.W.kitOne K (.ref C2) (.ref C6) = some false)
    (ev2 : PySem.W.kitOne K (.ref C2) (.type "ValueError") = some true)
    (ega3 : PySem.W.findIn K (.ref C3) "__getattribute__" = some (some (.builtin "BaseException.__getattribute__")))
    (egt3 : PySem.W.findIn K (.ref C3) "__getattr__" = some none)
    (ehd3 : PySem.W.hasDictIn K C3 = true)
    (ecl3 : PySem.W.findIn K (.ref C3) "__class__" = some (some (.builtin "object.__class__")))
    (emr3 : PySem.W.mroIn K C3 (.type "object") = some true)
    (es3_0 : PySem.W.subIn K (.ref C3) (.ref C0) = some true)
    (ek3_0 : PySem.W.kitOne K (.ref C3) (.ref C0) = some true)
    (es3_1 : PySem.W.subIn K (.ref C3) (.ref C1) = some false)
    (ek3_1 : PySem.W.kitOne K (.ref C3) (.ref C1) = some false)
    (es3_2 : PySem.W.subIn K (.ref C3) (.ref C2) = some false)
    (ek3_2 : PySem.W.kitOne K (.ref C3) (.ref C2) = some false)
    (es3_3 : PySem.W.subIn K (.ref C3) (.ref C3) = some true)
    (ek3_3 : PySem.W.kitOne K (.ref C3) (.ref C3) = some true)
    (es3_4 : PySem.W.subIn K (.ref C3) (.ref C4) = some false)
    (ek3_4 : PySem.W.kitOne K (.ref C3) (.ref C4) = some false)
    (es3_5 : PySem.W.subIn K (.ref C3) (.ref C5) = some false)
    (ek3_5 : PySem.W.kitOne K (.ref C3) (.ref C5) = some false)
    (es3_6 : PySem.W.subIn K (.ref C3) (.ref C6) = some false)
    (ek3_6 : PySem.W.kitOne K (.ref C3) (.ref C6) = some false)
    (ev3 : PySem.W.kitOne K (.ref C3) (.type "ValueError") = some true)
    (ega4 : PySem.W.findIn K (.ref C4) "__getattribute__" = some (some (.builtin "BaseException.__getattribute__")))
    (egt4 : PySem.W.findIn K (.ref C4) "__getattr__" = some none)
    (ehd4 : PySem.W.hasDictIn K C4 = true)
    (ecl4 : PySem.W.findIn K (.ref C4) "__class__" = some (some (.builtin "object.__class__")))
    (emr4 : PySem.W.mroIn K C4 (.type "object") = some true)
    (es4_0 : PySem.W.subIn K (.ref C4) (.ref C0) = some true)
    (ek4_0 : PySem.W.kitOne K (.ref C4) (.ref C0) = some true)
    (es4_1 : PySem.W.subIn K (.ref C4) (.ref C1) = some false)
    (ek4_1 : PySem.W.kitOne K (.ref C4) (.ref C1) = some false)
    (es4_2 : PySem.W.subIn K (.ref C4) (.ref C2) = some false)
    (ek4_2 : PySem.W.kitOne K (.ref C4) (.ref C2) = some false)
    (es4_3 : PySem.W.subIn K (.ref C4) (.ref C3) = some false)
    (ek4_3 : PySem.W.kitOne K (.ref C4) (.ref C3) = some false)
    (es4_4 : PySem.W.subIn K (.ref C4) (.ref C4) = some true)
    (ek4_4 : PySem.W.kitOne K (.ref C4) (.ref C4) = some true)
    (es4_5 : PySem.W.subIn K (.ref C4) (.ref C5) = some false)
    (ek4_5 : PySem.W.kitOne K (.ref C4) (.ref C5) = some false)
    (es4_6 : PySem.W.subIn K (.ref C4) (.ref C6) = some false)
    (ek4_6 : PySem.W.kitOne K (.ref C4) (.ref C6) = some false)
    (ev4 : PySem.W.kitOne K (.ref C4) (.type "ValueError") = some true)
    (ega5 : PySem.W.findIn K (.ref C5) "__getattribute__" = some (some (.builtin "BaseException.__getattribute__")))
    (egt5 : PySem.W.findIn K (.ref C5) "__getattr__" = some none)
    (ehd5 : PySem.W.hasDictIn K C5 = true)
    (ecl5 : PySem.W.findIn K (.ref C5) "__class__" = some (some (.builtin "object.__class__")))
    (emr5 : PySem.W.mroIn K C5 (.type "object") = some true)
    (es5_0 : PySem.W.subIn K (.ref C5) (.ref C0) = some true)
    (ek5_0 : PySem.W.kitOne K (.ref C5) (.ref C0) = some true)
    (es5_1 : PySem.W.subIn K (.ref C5) (.ref C1) = some false)
    (ek5_1 : PySem.W.kitOne K (.ref C5) (.ref C1) = some false)
    (es5_2 : PySem.W.subIn K (.ref C5) (.ref C2) = some false)
    (ek5_2 : PySem.W.kitOne K (.ref C5) (.ref C2) = some false)
    (es5_3 : PySem.W.subIn K (.ref C5) (.ref C3) = some false)
    (ek5_3 : PySem.W.kitOne K (.ref C5) (.ref C3) = some false)
    (es5_4 : PySem.W.subIn K (.ref C5) (.ref C4) = some false)
    (ek5_4 : PySem.W.kitOne K (.ref C5) (.ref C4) = some false)
    (es5_5 : PySem.W.subIn K (.ref C5) (.ref C5) = some true)
    (ek5_5 : PySem.W.kitOne K (.ref C5) (.ref C5) = some true)
    (es5_6 : PySem.W.subIn K (.ref C5) (.ref C6) = some false)
    (ek5_6 : PySem.W.kitOne K (.ref C5) (.ref C6) = some false)
    (ev5 : PySem.W.kitOne K (.ref C5) (.type "ValueError") = some true)
    (ega6 : PySem.W.findIn K (.ref C6) "__getattribute__" = some (some (.builtin "BaseException.__getattribute__")))
    (egt6 : PySem.W.findIn K (.ref C6) "__getattr__" = some none)
    (ehd6 : PySem.W.hasDictIn K C6 = true)
    (ecl6 : PySem.W.findIn K (.ref C6) "__class__" = some (some (.builtin "object.__class__")))
    (emr6 : PySem.W.mroIn K C6 (.type "object") = some true)
    (es6_0 : PySem.W.subIn K (.ref C6) (.ref C0) = some true)
    (ek6_0 : PySem.W.kitOne K (.ref C6) (.ref C0) = some true)
    (es6_1 : PySem.W.subIn K (.ref C6) (.ref C1) = some false)
    (ek6_1 : PySem.W.kitOne K (.ref C6) (.ref C1) = some false)
    (es6_2 : PySem.W.subIn K (.ref C6) (.ref C2) = some false)
    (ek6_2 : PySem.W.kitOne K (.ref C6) (.ref C2) = some false)
    (es6_3 : PySem.W.subIn K (.ref C6) (.ref C3) = some false)
    (ek6_3 : PySem.W.kitOne K (.ref C6) (.ref C3) = some false)
    (es6_4 : PySem.W.subIn K (.ref C6) (.ref C4) = some false)
    (ek6_4 : PySem.W.kitOne K (.ref C6) (.ref C4) = some false)
    (es6_5 : PySem.W.subIn K (.ref C6) (.ref C5) = some false)
    (ek6_5 : PySem.W.kitOne K (.ref C6) (.ref C5) = some false)
    (es6_6 : PySem.W.subIn K (.ref C6) (.ref C6) = some true)
    (ek6_6 : PySem.W.kitOne K (.ref C6) (.ref C6) = some true)
    (ev6 : PySem.W.kitOne K (.ref C6) (.type "ValueError") = some true)
    (frd0 : PySem.W.readsIn K C0 (.type "type") = true)
    (fga0 : PySem.W.specialIn K (.ref C0) "__getattribute__" = some (some (.builtin "type.__getattribute__")))
    (fvi0 : PySem.W.findCls K (.ref C0) (.type "type") "__init__" = some (.val (.builtin "ValueError.__init__")))
    (lx4 : K.lookup C4 = some (excClassObj nm4 qn4 C4 N4 bs4 bm4 true sn4 su4 ab4 co4 dd4 ka4 kb4 kc_4 kd4 ke4 "ValueError.__new__"))
    (rv4 : PySem.HandSPX.refsVE bm4 = true)
    (xs4 : PySem.W.findIn K (.ref C4) "__setattr__" = some (some (.builtin "object.__setattr__")))
    (xi4 : PySem.W.findIn K (.ref C4) "__init__" = some (some (.ref g4)))
    (xy4 : PySem.W.typeIn K (.ref g4) = some (.type "function"))
    (lg4 : K.lookup g4 = some ⟨goc4, god4, .func (PySem.W.fnOf "__init__" "BadStep.__init__" (defArgs (inClass (top 5) 0)) (defBody (inClass (top 5) 0)) (defScope (inClass (top 5) 0)) .none gkV4 gdc4 gpm4 gan4 gcd4 gct4), gsl4⟩)
    (cg4 : PySem.W.codeIn K gcd4 "BadStep.__init__" = true)
    (kg4 : PySem.W.keepIn K (.ref g4) = true)
    (z0 : PySem.W.nsIn K mainGlobals "ValueError" = some none)
    (z1 : PySem.W.nsIn K mainGlobals "bool" = some none)
    (z2 : PySem.W.nsIn K mainGlobals "enumerate" = some none)
    (z3 : PySem.W.nsIn K mainGlobals "int" = some none)
    (z4 : PySem.W.nsIn K mainGlobals "isinstance" = some none)
    (z5 : PySem.W.nsIn K mainGlobals "len" = some none)
    (z6 : PySem.W.nsIn K mainGlobals "list" = some none)
    (z7 : PySem.W.nsIn K mainGlobals "max" = some none)
    (z8 : PySem.W.nsIn K mainGlobals "min" = some none)
    (z9 : PySem.W.nsIn K mainGlobals "range" = some none)
    (z10 : PySem.W.nsIn K mainGlobals "str" = some none)
    (z11 : PySem.W.nsIn K mainGlobals "sum" = some none)
    (z12 : PySem.W.nsIn K mainGlobals "tuple" = some none)
    (y0 : PySem.W.nsIn K mainGlobals "LETTERS" = some (some (.str "abcdefghijklmnopqrstuvwxyz" tk0)))
    (y1 : PySem.W.nsIn K mainGlobals "MOST_AMOUNT" = some (some (.int 1000000000 tk1)))
    (y2 : PySem.W.nsIn K mainGlobals "MOST_LETTERS" = some (some (.int 12 tk2)))
    (y3 : PySem.W.nsIn K mainGlobals "MOST_SIZE" = some (some (.int 1000000 tk3)))
    (y4 : PySem.W.nsIn K mainGlobals "MOST_STEPS" = some (some (.int 30 tk4)))
    (y5 : PySem.W.nsIn K mainGlobals "MOST_TIMES" = some (some (.int 9 tk5)))
    (y6 : PySem.W.nsIn K mainGlobals "MOST_WIDE" = some (some (.int 32 tk6)))
    (y7 : PySem.W.nsIn K mainGlobals "MOST_WINDOWS" = some (some (.int 20 tk7)))
    (y8 : PySem.W.nsIn K mainGlobals "MOST_WITHIN" = some (some (.int 1000000 tk8)))
    (nl : noLists K = true) : ∃ fd : FuncData, (∀ (s : Shared) (v : Value), BindsTo s fd ⟨[v], []⟩ [("_law_script", v)]) ∧ ∀ base : Heap, K.In base → base.Ns mainGlobals mg → FnOk l.prog w K mg base (L2.CX l.prog w) 10 fa0 fd ["_law_script"] (spLaw K) := by
  have e : fa0 = f31 := by have e := hfa.symm.trans (PySem.W.mg_of X G a31); cases e; rfl
  have F0 := fun_mk (st := top 12) l0 c0 k0
  have b0 := F0.binds (ps := ["thing"]) fun _ _ _ _ _ _ us hl => match us, hl with | [_], _ => rfl
  have F1 := fun_mk (st := top 13) l1 c1 k1
  have b1 := F1.binds (ps := ["thing", "least", "most"]) fun _ _ _ _ _ _ us hl => match us, hl with | [_, _, _], _ => rfl
  have F2 := fun_mk (st := top 14) l2 c2 k2
  have b2 := F2.binds (ps := ["thing"]) fun _ _ _ _ _ _ us hl => match us, hl with | [_], _ => rfl
  have F3 := fun_mk (st := top 15) l3 c3 k3
  have b3 := F3.binds (ps := ["thing"]) fun _ _ _ _ _ _ us hl => match us, hl with | [_], _ => rfl
  have F4 := fun_mk (st := top 21) l4 c4 k4
  have b4 := F4.binds (ps := ["thing"]) fun _ _ _ _ _ _ us hl => match us, hl with | [_], _ => rfl
  have F5 := fun_mk (st := top 22) l5 c5 k5
  have b5 := F5.binds (ps := ["thing"]) fun _ _ _ _ _ _ us hl => match us, hl with | [_], _ => rfl
  have F6 := fun_mk (st := top 23) l6 c6 k6
  have b6 := F6.binds (ps := ["low", "high"]) fun _ _ _ _ _ _ us hl => match us, hl with | [_, _], _ => rfl
  have F7 := fun_mk (st := top 24) l7 c7 k7
  have b7 := F7.binds (ps := ["times", "more"]) fun _ _ _ _ _ _ us hl => match us, hl with | [_, _], _ => rfl
  have F8 := fun_mk (st := top 25) l8 c8 k8
  have b8 := F8.binds (ps := ["size", "step"]) fun _ _ _ _ _ _ us hl => match us, hl with | [_, _], _ => rfl
  have F9 := fun_mk (st := top 26) l9 c9 k9
  have b9 := F9.binds (ps := ["thing"]) fun _ _ _ _ _ _ us hl => match us, hl with | [_], _ => rfl
  have F10 := fun_mk (st := top 27) l10 c10 k10
  have b10 := F10.binds (ps := ["thing"]) fun _ _ _ _ _ _ us hl => match us, hl with | [_], _ => rfl
  have F11 := fun_mk (st := top 28) l11 c11 k11
  have b11 := F11.binds (ps := ["step"]) fun _ _ _ _ _ _ us hl => match us, hl with | [_], _ => rfl
  have F12 := fun_mk (st := top 29) l12 c12 k12
  have b12 := F12.binds (ps := ["step"]) fun _ _ _ _ _ _ us hl => match us, hl with | [_], _ => rfl
  have F13 := fun_mk (st := top 30) l13 c13 k13
  have b13 := F13.binds (ps := ["step"]) fun _ _ _ _ _ _ us hl => match us, hl with | [_], _ => rfl
  have F14 := fun_mk (st := top 34) l14 c14 k14
  have b14 := F14.binds (ps := ["step", "widths"]) fun _ _ _ _ _ _ us hl => match us, hl with | [_, _], _ => rfl
  have F15 := fun_mk (st := top 35) l15 c15 k15
  have b15 := F15.binds (ps := ["step", "widths"]) fun _ _ _ _ _ _ us hl => match us, hl with | [_, _], _ => rfl
  have F16 := fun_mk (st := top 36) l16 c16 k16
  have b16 := F16.binds (ps := ["plan"]) fun _ _ _ _ _ _ us hl => match us, hl with | [_], _ => rfl
  have F17 := fun_mk (st := top 38) l17 c17 k17
  have b17 := F17.binds (ps := ["_law_script", "_law_k"]) fun _ _ _ _ _ _ us hl => match us, hl with | [_, _], _ => rfl
  have F18 := fun_mk (st := top 39) l18 c18 k18
  have b18 := F18.binds (ps := ["_law_thing"]) fun _ _ _ _ _ _ us hl => match us, hl with | [_], _ => rfl
  have F19 := fun_mk (st := top 40) l19 c19 k19
  have b19 := F19.binds (ps := ["_law_thing"]) fun _ _ _ _ _ _ us hl => match us, hl with | [_], _ => rfl
  have F20 := fun_mk (st := top 41) l20 c20 k20
  have b20 := F20.binds (ps := ["_law_thing", "_law_least", "_law_most"]) fun _ _ _ _ _ _ us hl => match us, hl with | [_, _, _], _ => rfl
  have F21 := fun_mk (st := top 42) l21 c21 k21
  have b21 := F21.binds (ps := ["_law_cell", "_law_k", "_law_signs"]) fun _ _ _ _ _ _ us hl => match us, hl with | [_, _, _], _ => rfl
  have F22 := fun_mk (st := top 43) l22 c22 k22
  have b22 := F22.binds (ps := ["_law_thing"]) fun _ _ _ _ _ _ us hl => match us, hl with | [_], _ => rfl
  have F23 := fun_mk (st := top 44) l23 c23 k23
  have b23 := F23.binds (ps := ["_law_cell", "_law_most"]) fun _ _ _ _ _ _ us hl => match us, hl with | [_, _], _ => rfl
  have F24 := fun_mk (st := top 45) l24 c24 k24
  have b24 := F24.binds (ps := ["_law_cell", "_law_name", "_law_streams", "_law_kind"]) fun _ _ _ _ _ _ us hl => match us, hl with | [_, _, _, _], _ => rfl
  have F25 := fun_mk (st := top 46) l25 c25 k25
  have b25 := F25.binds (ps := ["_law_step_here", "_law_widths"]) fun _ _ _ _ _ _ us hl => match us, hl with | [_, _], _ => rfl
  have F26 := fun_mk (st := top 47) l26 c26 k26
  have b26 := F26.binds (ps := ["_law_base", "_law_k", "_law_signs"]) fun _ _ _ _ _ _ us hl => match us, hl with | [_, _, _], _ => rfl
  have F27 := fun_mk (st := top 48) l27 c27 k27
  have b27 := F27.binds (ps := ["_law_script", "_law_first", "_law_most"]) fun _ _ _ _ _ _ us hl => match us, hl with | [_, _, _], _ => rfl
  have F28 := fun_mk (st := top 49) l28 c28 k28
  have b28 := F28.binds (ps := ["_law_plan_here"]) fun _ _ _ _ _ _ us hl => match us, hl with | [_], _ => rfl
  have F29 := fun_mk (st := top 50) l29 c29 k29
  have b29 := F29.binds (ps := ["_law_plan_here", "_law_cell", "_law_more"]) fun _ _ _ _ _ _ us hl => match us, hl with | [_, _, _], _ => rfl
  have F30 := fun_mk (st := top 51) l30 c30 k30
  have b30 := F30.binds (ps := ["_law_plan_here"]) fun _ _ _ _ _ _ us hl => match us, hl with | [_], _ => rfl
  have F31 := fun_mk (st := top 52) l31 c31 k31
  have b31 := F31.binds (ps := ["_law_script"]) fun _ _ _ _ _ _ us hl => match us, hl with | [_], _ => rfl
  have M : Made K mg (fun i => ([C0, C1, C2, C3, C4, C5, C6] : List Addr).getD i 0) fok sub dis pinf (fun i => ([f0, f1, f2, f3, f4, f5, f6, f7, f8, f9, f10, f11, f12, f13, f14, f15, f16, f17, f18, f19, f20, f21, f22, f23, f24, f25, f26, f27, f28, f29, f30, f31] : List Addr).getD i 0) (fun i => ([PySem.W.fnOf "is_whole" "is_whole" (defArgs (top 12)) (defBody (top 12)) (defScope (top 12)) .none kV0 dc0 pm0 an0 cd0 ct0, PySem.W.fnOf "is_among" "is_among" (defArgs (top 13)) (defBody (top 13)) (defScope (top 13)) .none kV1 dc1 pm1 an1 cd1 ct1, PySem.W.fnOf "is_name" "is_name" (defArgs (top 14)) (defBody (top 14)) (defScope (top 14)) .none kV2 dc2 pm2 an2 cd2 ct2, PySem.W.fnOf "is_amount" "is_amount" (defArgs (top 15)) (defBody (top 15)) (defScope (top 15)) .none kV3 dc3 pm3 an3 cd3 ct3, PySem.W.fnOf "is_tally" "is_tally" (defArgs (top 21)) (defBody (top 21)) (defScope (top 21)) .none kV4 dc4 pm4 an4 cd4 ct4, PySem.W.fnOf "is_stream" "is_stream" (defArgs (top 22)) (defBody (top 22)) (defScope (top 22)) .none kV5 dc5 pm5 an5 cd5 ct5, PySem.W.fnOf "is_range" "is_range" (defArgs (top 23)) (defBody (top 23)) (defScope (top 23)) .none kV6 dc6 pm6 an6 cd6 ct6, PySem.W.fnOf "is_turn" "is_turn" (defArgs (top 24)) (defBody (top 24)) (defScope (top 24)) .none kV7 dc7 pm7 an7 cd7 ct7, PySem.W.fnOf "is_window" "is_window" (defArgs (top 25)) (defBody (top 25)) (defScope (top 25)) .none kV8 dc8 pm8 an8 cd8 ct8, PySem.W.fnOf "is_telling" "is_telling" (defArgs (top 26)) (defBody (top 26)) (defScope (top 26)) .none kV9 dc9 pm9 an9 cd9 ct9, PySem.W.fnOf "is_step" "is_step" (defArgs (top 27)) (defBody (top 27)) (defScope (top 27)) .none kV10 dc10 pm10 an10 cd10 ct10, PySem.W.fnOf "name_of" "name_of" (defArgs (top 28)) (defBody (top 28)) (defScope (top 28)) .none kV11 dc11 pm11 an11 cd11 ct11, PySem.W.fnOf "feeders" "feeders" (defArgs (top 29)) (defBody (top 29)) (defScope (top 29)) .none kV12 dc12 pm12 an12 cd12 ct12, PySem.W.fnOf "is_teller" "is_teller" (defArgs (top 30)) (defBody (top 30)) (defScope (top 30)) .none kV13 dc13 pm13 an13 cd13 ct13, PySem.W.fnOf "width" "width" (defArgs (top 34)) (defBody (top 34)) (defScope (top 34)) .none kV14 dc14 pm14 an14 cd14 ct14, PySem.W.fnOf "is_fed" "is_fed" (defArgs (top 35)) (defBody (top 35)) (defScope (top 35)) .none kV15 dc15 pm15 an15 cd15 ct15, PySem.W.fnOf "checked" "checked" (defArgs (top 36)) (defBody (top 36)) (defScope (top 36)) .none kV16 dc16 pm16 an16 cd16 ct16, PySem.W.fnOf "_law_at" "_law_at" (defArgs (top 38)) (defBody (top 38)) (defScope (top 38)) .none kV17 dc17 pm17 an17 cd17 ct17, PySem.W.fnOf "_law_whole" "_law_whole" (defArgs (top 39)) (defBody (top 39)) (defScope (top 39)) .none kV18 dc18 pm18 an18 cd18 ct18, PySem.W.fnOf "_law_is_name" "_law_is_name" (defArgs (top 40)) (defBody (top 40)) (defScope (top 40)) .none kV19 dc19 pm19 an19 cd19 ct19, PySem.W.fnOf "_law_is_among" "_law_is_among" (defArgs (top 41)) (defBody (top 41)) (defScope (top 41)) .none kV20 dc20 pm20 an20 cd20 ct20, PySem.W.fnOf "_law_called" "_law_called" (defArgs (top 42)) (defBody (top 42)) (defScope (top 42)) .none kV21 dc21 pm21 an21 cd21 ct21, PySem.W.fnOf "_law_is_step" "_law_is_step" (defArgs (top 43)) (defBody (top 43)) (defScope (top 43)) .none kV22 dc22 pm22 an22 cd22 ct22, PySem.W.fnOf "_law_number" "_law_number" (defArgs (top 44)) (defBody (top 44)) (defScope (top 44)) .none kV23 dc23 pm23 an23 cd23 ct23, PySem.W.fnOf "_law_step" "_law_step" (defArgs (top 45)) (defBody (top 45)) (defScope (top 45)) .none kV24 dc24 pm24 an24 cd24 ct24, PySem.W.fnOf "_law_wide" "_law_wide" (defArgs (top 46)) (defBody (top 46)) (defScope (top 46)) .none kV25 dc25 pm25 an25 cd25 ct25, PySem.W.fnOf "_law_step_name" "_law_step_name" (defArgs (top 47)) (defBody (top 47)) (defScope (top 47)) .none kV26 dc26 pm26 an26 cd26 ct26, PySem.W.fnOf "_law_plan" "_law_plan" (defArgs (top 48)) (defBody (top 48)) (defScope (top 48)) .none kV27 dc27 pm27 an27 cd27 ct27, PySem.W.fnOf "_law_bad" "_law_bad" (defArgs (top 49)) (defBody (top 49)) (defScope (top 49)) .none kV28 dc28 pm28 an28 cd28 ct28, PySem.W.fnOf "_law_spoilt" "_law_spoilt" (defArgs (top 50)) (defBody (top 50)) (defScope (top 50)) .none kV29 dc29 pm29 an29 cd29 ct29, PySem.W.fnOf "_law_said" "_law_said" (defArgs (top 51)) (defBody (top 51)) (defScope (top 51)) .none kV30 dc30 pm30 an30 cd30 ct30, PySem.W.fnOf "law" "law" (defArgs (top 52)) (defBody (top 52)) (defScope (top 52)) .none kV31 dc31 pm31 an31 cd31 ct31] : List FuncData).getD i (PySem.W.fnOf "is_whole" "is_whole" (defArgs (top 12)) (defBody (top 12)) (defScope (top 12)) .none kV0 dc0 pm0 an0 cd0 ct0)) := by
    refine ⟨fun i di h => ?_, fun x i bs h => ?_, fun x h => ?_, fun x d h => ?_, ⟨fun c f h => ?_⟩, fun x c i bs h => ?_, fun c m i bs h => ?_, fun x c h => ?_, fun x c h => ?_, fun x c h => ?_, fun h c h2 => ?_, fun c h => ?_⟩
    · match i, h with
      | 0, h => cases h; exact ⟨F0, b0⟩
      | 1, h => cases h; exact ⟨F1, b1⟩
      | 2, h => cases h; exact ⟨F2, b2⟩
      | 3, h => cases h; exact ⟨F3, b3⟩
      | 4, h => cases h; exact ⟨F4, b4⟩
      | 5, h => cases h; exact ⟨F5, b5⟩
      | 6, h => cases h; exact ⟨F6, b6⟩
      | 7, h => cases h; exact ⟨F7, b7⟩
      | 8, h => cases h; exact ⟨F8, b8⟩
      | 9, h => cases h; exact ⟨F9, b9⟩
      | 10, h => cases h; exact ⟨F10, b10⟩
      | 11, h => cases h; exact ⟨F11, b11⟩
      | 12, h => cases h; exact ⟨F12, b12⟩
      | 13, h => cases h; exact ⟨F13, b13⟩
      | 14, h => cases h; exact ⟨F14, b14⟩
      | 15, h => cases h; exact ⟨F15, b15⟩
      | 16, h => cases h; exact ⟨F16, b16⟩
      | 17, h => cases h; exact ⟨F17, b17⟩
      | 18, h => cases h; exact ⟨F18, b18⟩
      | 19, h => cases h; exact ⟨F19, b19⟩
      | 20, h => cases h; exact ⟨F20, b20⟩
      | 21, h => cases h; exact ⟨F21, b21⟩
      | 22, h => cases h; exact ⟨F22, b22⟩
      | 23, h => cases h; exact ⟨F23, b23⟩
      | 24, h => cases h; exact ⟨F24, b24⟩
      | 25, h => cases h; exact ⟨F25, b25⟩
      | 26, h => cases h; exact ⟨F26, b26⟩
      | 27, h => cases h; exact ⟨F27, b27⟩
      | 28, h => cases h; exact ⟨F28, b28⟩
      | 29, h => cases h; exact ⟨F29, b29⟩
      | 30, h => cases h; exact ⟨F30, b30⟩
      | 31, h => cases h; exact ⟨F31, b31⟩
      | n + 32, h => cases h
    · simp only [pinf, List.mem_cons, List.not_mem_nil, or_false, Prod.mk.injEq] at h
      rcases h with ⟨rfl, rfl, rfl⟩ | ⟨rfl, rfl, rfl⟩ | ⟨rfl, rfl, rfl⟩ | ⟨rfl, rfl, rfl⟩ | ⟨rfl, rfl, rfl⟩ | ⟨rfl, rfl, rfl⟩ | ⟨rfl, rfl, rfl⟩ | ⟨rfl, rfl, rfl⟩ | ⟨rfl, rfl, rfl⟩ | ⟨rfl, rfl, rfl⟩ | ⟨rfl, rfl, rfl⟩ | ⟨rfl, rfl, rfl⟩ | ⟨rfl, rfl, rfl⟩ | ⟨rfl, rfl, rfl⟩ | ⟨rfl, rfl, rfl⟩ | ⟨rfl, rfl, rfl⟩ | ⟨rfl, rfl, rfl⟩ | ⟨rfl, rfl, rfl⟩ | ⟨rfl, rfl, rfl⟩ | ⟨rfl, rfl, rfl⟩ | ⟨rfl, rfl, rfl⟩ | ⟨rfl, rfl, rfl⟩ | ⟨rfl, rfl, rfl⟩ | ⟨rfl, rfl, rfl⟩ | ⟨rfl, rfl, rfl⟩ | ⟨rfl, rfl, rfl⟩ | ⟨rfl, rfl, rfl⟩ | ⟨rfl, rfl, rfl⟩ | ⟨rfl, rfl, rfl⟩ | ⟨rfl, rfl, rfl⟩ | ⟨rfl, rfl, rfl⟩ | ⟨rfl, rfl, rfl⟩
      · exact ⟨PySem.W.mg_of X G a0, k0⟩
      · exact ⟨PySem.W.mg_of X G a1, k1⟩
      · exact ⟨PySem.W.mg_of X G a2, k2⟩
      · exact ⟨PySem.W.mg_of X G a3, k3⟩
      · exact ⟨PySem.W.mg_of X G a4, k4⟩
      · exact ⟨PySem.W.mg_of X G a5, k5⟩
      · exact ⟨PySem.W.mg_of X G a6, k6⟩
      · exact ⟨PySem.W.mg_of X G a7, k7⟩
      · exact ⟨PySem.W.mg_of X G a8, k8⟩
      · exact ⟨PySem.W.mg_of X G a9, k9⟩
      · exact ⟨PySem.W.mg_of X G a10, k10⟩
      · exact ⟨PySem.W.mg_of X G a11, k11⟩
      · exact ⟨PySem.W.mg_of X G a12, k12⟩
      · exact ⟨PySem.W.mg_of X G a13, k13⟩
      · exact ⟨PySem.W.mg_of X G a14, k14⟩
      · exact ⟨PySem.W.mg_of X G a15, k15⟩
      · exact ⟨PySem.W.mg_of X G a16, k16⟩
      · exact ⟨PySem.W.mg_of X G a17, k17⟩
      · exact ⟨PySem.W.mg_of X G a18, k18⟩
      · exact ⟨PySem.W.mg_of X G a19, k19⟩
      · exact ⟨PySem.W.mg_of X G a20, k20⟩
      · exact ⟨PySem.W.mg_of X G a21, k21⟩
      · exact ⟨PySem.W.mg_of X G a22, k22⟩
      · exact ⟨PySem.W.mg_of X G a23, k23⟩
      · exact ⟨PySem.W.mg_of X G a24, k24⟩
      · exact ⟨PySem.W.mg_of X G a25, k25⟩
      · exact ⟨PySem.W.mg_of X G a26, k26⟩
      · exact ⟨PySem.W.mg_of X G a27, k27⟩
      · exact ⟨PySem.W.mg_of X G a28, k28⟩
      · exact ⟨PySem.W.mg_of X G a29, k29⟩
      · exact ⟨PySem.W.mg_of X G a30, k30⟩
      · exact ⟨PySem.W.mg_of X G a31, k31⟩
    · simp only [pinf, List.mem_cons, List.not_mem_nil, or_false, Prod.mk.injEq] at h
      rcases h with rfl | rfl | rfl | rfl | rfl | rfl | rfl | rfl | rfl | rfl | rfl | rfl | rfl
      · exact PySem.W.mg_none_of X G z0
      · exact PySem.W.mg_none_of X G z1
      · exact PySem.W.mg_none_of X G z2
      · exact PySem.W.mg_none_of X G z3
      · exact PySem.W.mg_none_of X G z4
      · exact PySem.W.mg_none_of X G z5
      · exact PySem.W.mg_none_of X G z6
      · exact PySem.W.mg_none_of X G z7
      · exact PySem.W.mg_none_of X G z8
      · exact PySem.W.mg_none_of X G z9
      · exact PySem.W.mg_none_of X G z10
      · exact PySem.W.mg_none_of X G z11
      · exact PySem.W.mg_none_of X G z12
    · simp only [pinf, List.mem_cons, List.not_mem_nil, or_false, Prod.mk.injEq] at h
      rcases h with ⟨rfl, rfl⟩ | ⟨rfl, rfl⟩ | ⟨rfl, rfl⟩ | ⟨rfl, rfl⟩ | ⟨rfl, rfl⟩ | ⟨rfl, rfl⟩ | ⟨rfl, rfl⟩ | ⟨rfl, rfl⟩ | ⟨rfl, rfl⟩
      · exact ⟨_, .str "abcdefghijklmnopqrstuvwxyz", PySem.W.mg_of X G y0, ⟨_, rfl⟩, rp_str (by decide +kernel)⟩
      · exact ⟨_, .int 1000000000, PySem.W.mg_of X G y1, ⟨_, rfl⟩, rp_int⟩
      · exact ⟨_, .int 12, PySem.W.mg_of X G y2, ⟨_, rfl⟩, rp_int⟩
      · exact ⟨_, .int 1000000, PySem.W.mg_of X G y3, ⟨_, rfl⟩, rp_int⟩
      · exact ⟨_, .int 30, PySem.W.mg_of X G y4, ⟨_, rfl⟩, rp_int⟩
      · exact ⟨_, .int 9, PySem.W.mg_of X G y5, ⟨_, rfl⟩, rp_int⟩
      · exact ⟨_, .int 32, PySem.W.mg_of X G y6, ⟨_, rfl⟩, rp_int⟩
      · exact ⟨_, .int 20, PySem.W.mg_of X G y7, ⟨_, rfl⟩, rp_int⟩
      · exact ⟨_, .int 1000000, PySem.W.mg_of X G y8, ⟨_, rfl⟩, rp_int⟩
    · cases (of_decide_eq_true h)
    · cases h
    · cases h
    · cases h
    · simp only [pinf, List.mem_cons, List.not_mem_nil, or_false, Prod.mk.injEq] at h
      rcases h with ⟨rfl, rfl⟩
      · exact ⟨PySem.W.mg_of X G A4, C0, g4, "FlowError", _, inClass (top 5) 0, _, ⟨⟨⟨_, _, _, _, _, _, _, _, _, _, _, _, _, _, _, lx4, rv4⟩, xs4, xb4, xt4, xk4⟩, xi4, xy4, np4, frd0, fga0, fvi0, PySem.W.mg_of X G A0⟩, fun_mk (st := inClass (top 5) 0) lg4 cg4 kg4, by decide +kernel, (fun_mk (st := inClass (top 5) 0) lg4 cg4 kg4).binds (ps := ["self", "place"]) fun _ _ _ _ _ _ us hl => match us, hl with | [_, _], _ => rfl⟩
    · simp only [pinf, List.mem_cons, List.not_mem_nil, or_false, Prod.mk.injEq] at h
      rcases h with ⟨rfl, rfl⟩ | ⟨rfl, rfl⟩ | ⟨rfl, rfl⟩ | ⟨rfl, rfl⟩ | ⟨rfl, rfl⟩ | ⟨rfl, rfl⟩ | ⟨rfl, rfl⟩
      · refine ⟨PySem.W.mg_of X G A0, fun c' h2 => ?_, fun c' h2 => ?_⟩
        · match c', h2 with
          | 0, _ => exact PySem.W.exm_ref xb0 ehd0 xt0 es0_0
          | 1, _ => exact PySem.W.exm_ref xb0 ehd0 xt0 es1_0
          | 2, _ => exact PySem.W.exm_ref xb0 ehd0 xt0 es2_0
          | 3, _ => exact PySem.W.exm_ref xb0 ehd0 xt0 es3_0
          | 4, _ => exact PySem.W.exm_ref xb0 ehd0 xt0 es4_0
          | 5, _ => exact PySem.W.exm_ref xb0 ehd0 xt0 es5_0
          | 6, _ => exact PySem.W.exm_ref xb0 ehd0 xt0 es6_0
          | n + 7, h0 => exact absurd h0 (by simp [sub, supL])
        · match c', h2 with
          | 0, _ => exact ek0_0
          | 1, _ => exact ek1_0
          | 2, _ => exact ek2_0
          | 3, _ => exact ek3_0
          | 4, _ => exact ek4_0
          | 5, _ => exact ek5_0
          | 6, _ => exact ek6_0
          | n + 7, h0 => exact absurd h0 (by simp [sub, supL])
      · refine ⟨PySem.W.mg_of X G A1, fun c' h2 => ?_, fun c' h2 => ?_⟩
        · match c', h2 with
          | 0, _ => exact PySem.W.exm_ref xb1 ehd1 xt1 es0_1
          | 1, _ => exact PySem.W.exm_ref xb1 ehd1 xt1 es1_1
          | 2, _ => exact PySem.W.exm_ref xb1 ehd1 xt1 es2_1
          | 3, _ => exact PySem.W.exm_ref xb1 ehd1 xt1 es3_1
          | 4, _ => exact PySem.W.exm_ref xb1 ehd1 xt1 es4_1
          | 5, _ => exact PySem.W.exm_ref xb1 ehd1 xt1 es5_1
          | 6, _ => exact PySem.W.exm_ref xb1 ehd1 xt1 es6_1
          | n + 7, h0 => exact absurd h0 (by simp [sub, supL])
        · match c', h2 with
          | 0, _ => exact ek0_1
          | 1, _ => exact ek1_1
          | 2, _ => exact ek2_1
          | 3, _ => exact ek3_1
          | 4, _ => exact ek4_1
          | 5, _ => exact ek5_1
          | 6, _ => exact ek6_1
          | n + 7, h0 => exact absurd h0 (by simp [sub, supL])
      · refine ⟨PySem.W.mg_of X G A2, fun c' h2 => ?_, fun c' h2 => ?_⟩
        · match c', h2 with
          | 0, _ => exact PySem.W.exm_ref xb2 ehd2 xt2 es0_2
          | 1, _ => exact PySem.W.exm_ref xb2 ehd2 xt2 es1_2
          | 2, _ => exact PySem.W.exm_ref xb2 ehd2 xt2 es2_2
          | 3, _ => exact PySem.W.exm_ref xb2 ehd2 xt2 es3_2
          | 4, _ => exact PySem.W.exm_ref xb2 ehd2 xt2 es4_2
          | 5, _ => exact PySem.W.exm_ref xb2 ehd2 xt2 es5_2
          | 6, _ => exact PySem.W.exm_ref xb2 ehd2 xt2 es6_2
          | n + 7, h0 => exact absurd h0 (by simp [sub, supL])
        · match c', h2 with
          | 0, _ => exact ek0_2
          | 1, _ => exact ek1_2
          | 2, _ => exact ek2_2
          | 3, _ => exact ek3_2
          | 4, _ => exact ek4_2
          | 5, _ => exact ek5_2
          | 6, _ => exact ek6_2
          | n + 7, h0 => exact absurd h0 (by simp [sub, supL])
      · refine ⟨PySem.W.mg_of X G A3, fun c' h2 => ?_, fun c' h2 => ?_⟩
        · match c', h2 with
          | 0, _ => exact PySem.W.exm_ref xb3 ehd3 xt3 es0_3
          | 1, _ => exact PySem.W.exm_ref xb3 ehd3 xt3 es1_3
          | 2, _ => exact PySem.W.exm_ref xb3 ehd3 xt3 es2_3
          | 3, _ => exact PySem.W.exm_ref xb3 ehd3 xt3 es3_3
          | 4, _ => exact PySem.W.exm_ref xb3 ehd3 xt3 es4_3
          | 5, _ => exact PySem.W.exm_ref xb3 ehd3 xt3 es5_3
          | 6, _ => exact PySem.W.exm_ref xb3 ehd3 xt3 es6_3
          | n + 7, h0 => exact absurd h0 (by simp [sub, supL])
        · match c', h2 with
          | 0, _ => exact ek0_3
          | 1, _ => exact ek1_3
          | 2, _ => exact ek2_3
          | 3, _ => exact ek3_3
          | 4, _ => exact ek4_3
          | 5, _ => exact ek5_3
          | 6, _ => exact ek6_3
          | n + 7, h0 => exact absurd h0 (by simp [sub, supL])
      · refine ⟨PySem.W.mg_of X G A4, fun c' h2 => ?_, fun c' h2 => ?_⟩
        · match c', h2 with
          | 0, _ => exact PySem.W.exm_ref xb4 ehd4 xt4 es0_4
          | 1, _ => exact PySem.W.exm_ref xb4 ehd4 xt4 es1_4
          | 2, _ => exact PySem.W.exm_ref xb4 ehd4 xt4 es2_4
          | 3, _ => exact PySem.W.exm_ref xb4 ehd4 xt4 es3_4
          | 4, _ => exact PySem.W.exm_ref xb4 ehd4 xt4 es4_4
          | 5, _ => exact PySem.W.exm_ref xb4 ehd4 xt4 es5_4
          | 6, _ => exact PySem.W.exm_ref xb4 ehd4 xt4 es6_4
          | n + 7, h0 => exact absurd h0 (by simp [sub, supL])
        · match c', h2 with
          | 0, _ => exact ek0_4
          | 1, _ => exact ek1_4
          | 2, _ => exact ek2_4
          | 3, _ => exact ek3_4
          | 4, _ => exact ek4_4
          | 5, _ => exact ek5_4
          | 6, _ => exact ek6_4
          | n + 7, h0 => exact absurd h0 (by simp [sub, supL])
      · refine ⟨PySem.W.mg_of X G A5, fun c' h2 => ?_, fun c' h2 => ?_⟩
        · match c', h2 with
          | 0, _ => exact PySem.W.exm_ref xb5 ehd5 xt5 es0_5
          | 1, _ => exact PySem.W.exm_ref xb5 ehd5 xt5 es1_5
          | 2, _ => exact PySem.W.exm_ref xb5 ehd5 xt5 es2_5
          | 3, _ => exact PySem.W.exm_ref xb5 ehd5 xt5 es3_5
          | 4, _ => exact PySem.W.exm_ref xb5 ehd5 xt5 es4_5
          | 5, _ => exact PySem.W.exm_ref xb5 ehd5 xt5 es5_5
          | 6, _ => exact PySem.W.exm_ref xb5 ehd5 xt5 es6_5
          | n + 7, h0 => exact absurd h0 (by simp [sub, supL])
        · match c', h2 with
          | 0, _ => exact ek0_5
          | 1, _ => exact ek1_5
          | 2, _ => exact ek2_5
          | 3, _ => exact ek3_5
          | 4, _ => exact ek4_5
          | 5, _ => exact ek5_5
          | 6, _ => exact ek6_5
          | n + 7, h0 => exact absurd h0 (by simp [sub, supL])
      · refine ⟨PySem.W.mg_of X G A6, fun c' h2 => ?_, fun c' h2 => ?_⟩
        · match c', h2 with
          | 0, _ => exact PySem.W.exm_ref xb6 ehd6 xt6 es0_6
          | 1, _ => exact PySem.W.exm_ref xb6 ehd6 xt6 es1_6
          | 2, _ => exact PySem.W.exm_ref xb6 ehd6 xt6 es2_6
          | 3, _ => exact PySem.W.exm_ref xb6 ehd6 xt6 es3_6
          | 4, _ => exact PySem.W.exm_ref xb6 ehd6 xt6 es4_6
          | 5, _ => exact PySem.W.exm_ref xb6 ehd6 xt6 es5_6
          | 6, _ => exact PySem.W.exm_ref xb6 ehd6 xt6 es6_6
          | n + 7, h0 => exact absurd h0 (by simp [sub, supL])
        · match c', h2 with
          | 0, _ => exact ek0_6
          | 1, _ => exact ek1_6
          | 2, _ => exact ek2_6
          | 3, _ => exact ek3_6
          | 4, _ => exact ek4_6
          | 5, _ => exact ek5_6
          | 6, _ => exact ek6_6
          | n + 7, h0 => exact absurd h0 (by simp [sub, supL])
    · match c, h2 with
      | 0, _ => exact ev0
      | 1, _ => exact ev1
      | 2, _ => exact ev2
      | 3, _ => exact ev3
      | 4, _ => exact ev4
      | 5, _ => exact ev5
      | 6, _ => exact ev6
      | n + 7, h0 => exact absurd h0 (by simp [sub, supL])
    · match c, h with
      | 0, _ => exact ⟨⟨ega0, egt0, xb0, ehd0, ecl0, eds, etk, emr0⟩, ⟨ega0, egt0, xb0, ehd0⟩, np0⟩
      | 1, _ => exact ⟨⟨ega1, egt1, xb1, ehd1, ecl1, eds, etk, emr1⟩, ⟨ega1, egt1, xb1, ehd1⟩, np1⟩
      | 2, _ => exact ⟨⟨ega2, egt2, xb2, ehd2, ecl2, eds, etk, emr2⟩, ⟨ega2, egt2, xb2, ehd2⟩, np2⟩
      | 3, _ => exact ⟨⟨ega3, egt3, xb3, ehd3, ecl3, eds, etk, emr3⟩, ⟨ega3, egt3, xb3, ehd3⟩, np3⟩
      | 4, _ => exact ⟨⟨ega4, egt4, xb4, ehd4, ecl4, eds, etk, emr4⟩, ⟨ega4, egt4, xb4, ehd4⟩, np4⟩
      | 5, _ => exact ⟨⟨ega5, egt5, xb5, ehd5, ecl5, eds, etk, emr5⟩, ⟨ega5, egt5, xb5, ehd5⟩, np5⟩
      | 6, _ => exact ⟨⟨ega6, egt6, xb6, ehd6, ecl6, eds, etk, emr6⟩, ⟨ega6, egt6, xb6, ehd6⟩, np6⟩
      | n + 7, h0 => exact absurd h0 (by simp [sub, supL])
  refine ⟨PySem.W.fnOf "law" "law" (defArgs (top 52)) (defBody (top 52)) (defScope (top 52)) .none kV31 dc31 pm31 an31 cd31 ct31, fun s v => .of_eq rfl, fun base _ _ => ?_⟩
  rw [e]
  exact law_fn (T := T) (cad := (fun i => ([C0, C1, C2, C3, C4, C5, C6] : List Addr).getD i 0)) nl (defs_ok T rfl M fns_ok dis_ok 10 31 di_law rfl) law_true
theorem walk {l : PySem.W.OpenLaw} {q : Program} {loose : List Str} {XP : (Str → Option Value) → Heap → Prop} {YP : World → Heap → Prop} {d : DefRec} {K : Params → PySem.W.Frag} (hn : l.most = some 63) (hdf : d.params.defaults = [])
    (hY : ∀ (w : World) (h : Heap), YP w h → (K w.params).In h)
    (F : ∀ (w : World) (mg : Str → Option Value) (fa : Addr) (h : Heap), (K w.params).In h → h.Ns mainGlobals mg → mg d.name = some (.ref fa) →
      ∃ fd : FuncData, (∀ (s : Shared) (u : Value), BindsTo s fd ⟨[u], []⟩ [("_law_script", u)]) ∧ ∀ base : Heap, (K w.params).In base → base.Ns mainGlobals mg → FnOk l.prog w (K w.params) mg base (L2.CX l.prog w) 10 fa fd ["_law_script"] (spLaw (K w.params))) :
    PySem.W.WalkO q loose XP YP l.row.toRowW d [] (fun f vs => PySem.call f vs) :=
  L2.walk_ofB (n := 63) (k := 10) (x := "_law_script") (CX := fun w => L2.CX l.prog w) (sp := fun w => spLaw (K w.params)) hn (by decide) hdf ⟨rfl, by decide, by decide⟩ hY F (fun _ _ a ns hl hb _ hS => ⟨a, ns, rfl, hS, hl, hb, fun _ => rfl⟩) fun w _ _ _ _ z => by obtain ⟨_, _, _, _, _, _, _, _, _, _, _, _, z⟩ := z; exact z

end
end Vi
open PySem PySem.W PyProof.Rows
set_option maxRecDepth 100000 in
set_option maxHeartbeats 0 in
theorem PySem.Challenge.cw_brooktally_k05_plans_looked_at_holds : PySem.Challenge.rw_brooktally_k05_plans_looked_at.Holds := by
  w_on; o_law; k_head; (case hw => w_witness2)
  k_fill
  refine Vi.walk (l := PySem.Challenge.rw_brooktally_k05_plans_looked_at) rfl rfl (fun w h Y => PySem.W.kIn_of Y) ?F
  case F =>
    intro w mg fa h KX G hmg
    refine' Vi.all_mk KX G hmg ?a0 ?l0 ?c0 ?k0 ?a1 ?l1 ?c1 ?k1 ?a2 ?l2 ?c2 ?k2 ?a3 ?l3 ?c3 ?k3 ?a4 ?l4 ?c4 ?k4 ?a5 ?l5 ?c5 ?k5 ?a6 ?l6 ?c6 ?k6 ?a7 ?l7 ?c7 ?k7 ?a8 ?l8 ?c8 ?k8 ?a9 ?l9 ?c9 ?k9 ?a10 ?l10 ?c10 ?k10 ?a11 ?l11 ?c11 ?k11 ?a12 ?l12 ?c12 ?k12 ?a13 ?l13 ?c13 ?k13 ?a14 ?l14 ?c14 ?k14 ?a15 ?l15 ?c15 ?k15 ?a16 ?l16 ?c16 ?k16 ?a17 ?l17 ?c17 ?k17 ?a18 ?l18 ?c18 ?k18 ?a19 ?l19 ?c19 ?k19 ?a20 ?l20 ?c20 ?k20 ?a21 ?l21 ?c21 ?k21 ?a22 ?l22 ?c22 ?k22 ?a23 ?l23 ?c23 ?k23 ?a24 ?l24 ?c24 ?k24 ?a25 ?l25 ?c25 ?k25 ?a26 ?l26 ?c26 ?k26 ?a27 ?l27 ?c27 ?k27 ?a28 ?l28 ?c28 ?k28 ?a29 ?l29 ?c29 ?k29 ?a30 ?l30 ?c30 ?k30 ?a31 ?l31 ?c31 ?k31 ?A0 ?xk0 ?xb0 ?xt0 ?A1 ?xk1 ?xb1 ?xt1 ?A2 ?xk2 ?xb2 ?xt2 ?A3 ?xk3 ?xb3 ?xt3 ?A4 ?xk4 ?xb4 ?xt4 ?A5 ?xk5 ?xb5 ?xt5 ?A6 ?xk6 ?xb6 ?xt6 ?np6 ?np4 ?np1 ?np0 ?np5 ?np3 ?np2 ?eds ?etk ?ega0 ?egt0 ?ehd0 ?ecl0 ?emr0 ?es0_0 ?ek0_0 ?es0_1 ?ek0_1 ?es0_2 ?ek0_2 ?es0_3 ?ek0_3 ?es0_4 ?ek0_4 ?es0_5 ?ek0_5 ?es0_6 ?ek0_6 ?ev0 ?ega1 ?egt1 ?ehd1 ?ecl1 ?emr1 ?es1_0 ?ek1_0 ?es1_1 ?ek1_1 ?es1_2 ?ek1_2 ?es1_3 ?ek1_3 ?es1_4 ?ek1_4 ?es1_5 ?ek1_5 ?es1_6 ?ek1_6 ?ev1 ?ega2 ?egt2 ?ehd2 ?ecl2 ?emr2 ?es2_0 ?ek2_0 ?es2_1 ?ek2_1 ?es2_2 ?ek2_2 ?es2_3 ?ek2_3 ?es2_4 ?ek2_4 ?es2_5 ?ek2_5 ?es2_6 ?ek2_6 ?ev2 ?ega3 ?egt3 ?ehd3 ?ecl3 ?emr3 ?es3_0 ?ek3_0 ?es3_1 ?ek3_1 ?es3_2 ?ek3_2 ?es3_3 ?ek3_3 ?es3_4 ?ek3_4 ?es3_5 ?ek3_5 ?es3_6 ?ek3_6 ?ev3 ?ega4 ?egt4 ?ehd4 ?ecl4 ?emr4 ?es4_0 ?ek4_0 ?es4_1 ?ek4_1 ?es4_2 ?ek4_2 ?es4_3 ?ek4_3 ?es4_4 ?ek4_4 ?es4_5 ?ek4_5 ?es4_6 ?ek4_6 ?ev4 ?ega5 ?egt5 ?ehd5 ?ecl5 ?emr5 ?es5_0 ?ek5_0 ?es5_1 ?ek5_1 ?es5_2 ?ek5_2 ?es5_3 ?ek5_3 ?es5_4 ?ek5_4 ?es5_5 ?ek5_5 ?es5_6 ?ek5_6 ?ev5 ?ega6 ?egt6 ?ehd6 ?ecl6 ?emr6 ?es6_0 ?ek6_0 ?es6_1 ?ek6_1 ?es6_2 ?ek6_2 ?es6_3 ?ek6_3 ?es6_4 ?ek6_4 ?es6_5 ?ek6_5 ?es6_6 ?ek6_6 ?ev6 ?frd0 ?fga0 ?fvi0 ?lx4 ?rv4 ?xs4 ?xi4 ?xy4 ?lg4 ?cg4 ?kg4 ?z0 ?z1 ?z2 ?z3 ?z4 ?z5 ?z6 ?z7 ?z8 ?z9 ?z10 ?z11 ?z12 ?y0 ?y1 ?y2 ?y3 ?y4 ?y5 ?y6 ?y7 ?y8 ?nl
    (case a0 => k_is)
    (case l0 => k_is)
    (case c0 => k_is)
    (case k0 => k_is)
    (case a1 => k_is)
    (case l1 => k_is)
    (case c1 => k_is)
    (case k1 => k_is)
    (case a2 => k_is)
    (case l2 => k_is)
    (case c2 => k_is)
    (case k2 => k_is)
    (case a3 => k_is)
    (case l3 => k_is)
    (case c3 => k_is)
    (case k3 => k_is)
    (case a4 => k_is)
    (case l4 => k_is)
    (case c4 => k_is)
    (case k4 => k_is)
    (case a5 => k_is)
    (case l5 => k_is)
    (case c5 => k_is)
    (case k5 => k_is)
    (case a6 => k_is)
    (case l6 => k_is)
    (case c6 => k_is)
    (case k6 => k_is)
    (case a7 => k_is)
    (case l7 => k_is)
    (case c7 => k_is)
    (case k7 => k_is)
    (case a8 => k_is)
    (case l8 => k_is)
    (case c8 => k_is)
    (case k8 => k_is)
    (case a9 => k_is)
    (case l9 => k_is)
    (case c9 => k_is)
    (case k9 => k_is)
    (case a10 => k_is)
    (case l10 => k_is)
    (case c10 => k_is)
    (case k10 => k_is)
    (case a11 => k_is)
    (case l11 => k_is)
    (case c11 => k_is)
    (case k11 => k_is)
    (case a12 => k_is)
    (case l12 => k_is)
    (case c12 => k_is)
    (case k12 => k_is)
    (case a13 => k_is)
    (case l13 => k_is)
    (case c13 => k_is)
    (case k13 => k_is)
    (case a14 => k_is)
    (case l14 => k_is)
    (case c14 => k_is)
    (case k14 => k_is)
    (case a15 => k_is)
    (case l15 => k_is)
    (case c15 => k_is)
    (case k15 => k_is)
    (case a16 => k_is)
    (case l16 => k_is)
    (case c16 => k_is)
    (case k16 => k_is)
    (case a17 => k_is)
    (case l17 => k_is)
    (case c17 => k_is)
    (case k17 => k_is)
    (case a18 => k_is)
    (case l18 => k_is)
    (case c18 => k_is)
    (case k18 => k_is)
    (case a19 => k_is)
    (case l19 => k_is)
    (case c19 => k_is)
    (case k19 => k_is)
    (case a20 => k_is)
    (case l20 => k_is)
    (case c20 => k_is)
    (case k20 => k_is)
    (case a21 => k_is)
    (case l21 => k_is)
    (case c21 => k_is)
    (case k21 => k_is)
    (case a22 => k_is)
    (case l22 => k_is)
    (case c22 => k_is)
    (case k22 => k_is)
    (case a23 => k_is)
    (case l23 => k_is)
    (case c23 => k_is)
    (case k23 => k_is)
    (case a24 => k_is)
    (case l24 => k_is)
    (case c24 => k_is)
    (case k24 => k_is)
    (case a25 => k_is)
    (case l25 => k_is)
    (case c25 => k_is)
    (case k25 => k_is)
    (case a26 => k_is)
    (case l26 => k_is)
    (case c26 => k_is)
    (case k26 => k_is)
    (case a27 => k_is)
    (case l27 => k_is)
    (case c27 => k_is)
    (case k27 => k_is)
    (case a28 => k_is)
    (case l28 => k_is)
    (case c28 => k_is)
    (case k28 => k_is)
    (case a29 => k_is)
    (case l29 => k_is)
    (case c29 => k_is)
    (case k29 => k_is)
    (case a30 => k_is)
    (case l30 => k_is)
    (case c30 => k_is)
    (case k30 => k_is)
    (case a31 => k_is)
    (case l31 => k_is)
    (case c31 => k_is)
    (case k31 => k_is)
    (case A0 => k_is)
    (case xk0 => k_is)
    (case xb0 => k_is)
    (case xt0 => k_is)
    (case A1 => k_is)
    (case xk1 => k_is)
    (case xb1 => k_is)
    (case xt1 => k_is)
    (case A2 => k_is)
    (case xk2 => k_is)
    (case xb2 => k_is)
    (case xt2 => k_is)
    (case A3 => k_is)
    (case xk3 => k_is)
    (case xb3 => k_is)
    (case xt3 => k_is)
    (case A4 => k_is)
    (case xk4 => k_is)
    (case xb4 => k_is)
    (case xt4 => k_is)
    (case A5 => k_is)
    (case xk5 => k_is)
    (case xb5 => k_is)
    (case xt5 => k_is)
    (case A6 => k_is)
    (case xk6 => k_is)
    (case xb6 => k_is)
    (case xt6 => k_is)
    (case np6 => k_is)
    (case np4 => k_is)
    (case np1 => k_is)
    (case np0 => k_is)
    (case np5 => k_is)
    (case np3 => k_is)
    (case np2 => k_is)
    (case eds => k_is)
    (case etk => k_is)
    (case ega0 => k_is)
    (case egt0 => k_is)
    (case ehd0 => k_is)
    (case ecl0 => k_is)
    (case emr0 => k_is)
    (case es0_0 => first | rfl | k_is)
    (case ek0_0 => first | rfl | k_is)
    (case es0_1 => first | rfl | k_is)
    (case ek0_1 => first | rfl | k_is)
    (case es0_2 => first | rfl | k_is)
    (case ek0_2 => first | rfl | k_is)
    (case es0_3 => first | rfl | k_is)
    (case ek0_3 => first | rfl | k_is)
    (case es0_4 => first | rfl | k_is)
    (case ek0_4 => first | rfl | k_is)
    (case es0_5 => first | rfl | k_is)
    (case ek0_5 => first | rfl | k_is)
    (case es0_6 => first | rfl | k_is)
    (case ek0_6 => first | rfl | k_is)
    (case ev0 => first | rfl | k_is)
    (case ega1 => k_is)
    (case egt1 => k_is)
    (case ehd1 => k_is)
    (case ecl1 => k_is)
    (case emr1 => k_is)
    (case es1_0 => first | rfl | k_is)
    (case ek1_0 => first | rfl | k_is)
    (case es1_1 => first | rfl | k_is)
    (case ek1_1 => first | rfl | k_is)
    (case es1_2 => first | rfl | k_is)
    (case ek1_2 => first | rfl | k_is)
    (case es1_3 => first | rfl | k_is)
    (case ek1_3 => first | rfl | k_is)
    (case es1_4 => first | rfl | k_is)
    (case ek1_4 => first | rfl | k_is)
    (case es1_5 => first | rfl | k_is)
    (case ek1_5 => first | rfl | k_is)
    (case es1_6 => first | rfl | k_is)
    (case ek1_6 => first | rfl | k_is)
    (case ev1 => first | rfl | k_is)
    (case ega2 => k_is)
    (case egt2 => k_is)
    (case ehd2 => k_is)
    (case ecl2 => k_is)
    (case emr2 => k_is)
    (case es2_0 => first | rfl | k_is)
    (case ek2_0 => first | rfl | k_is)
    (case es2_1 => first | rfl | k_is)
    (case ek2_1 => first | rfl | k_is)
    (case es2_2 => first | rfl | k_is)
    (case ek2_2 => first | rfl | k_is)
    (case es2_3 => first | rfl | k_is)
    (case ek2_3 => first | rfl | k_is)
    (case es2_4 => first | rfl | k_is)
    (case ek2_4 => first | rfl | k_is)
    (case es2_5 => first | rfl | k_is)
    (case ek2_5 => first | rfl | k_is)
    (case es2_6 => first | rfl | k_is)
    (case ek2_6 => first | rfl | k_is)
    (case ev2 => first | rfl | k_is)
    (case ega3 => k_is)
    (case egt3 => k_is)
    (case ehd3 => k_is)
    (case ecl3 => k_is)
    (case emr3 => k_is)
    (case es3_0 => first | rfl | k_is)
    (case ek3_0 => first | rfl | k_is)
    (case es3_1 => first | rfl | k_is)
    (case ek3_1 => first | rfl | k_is)
    (case es3_2 => first | rfl | k_is)
    (case ek3_2 => first | rfl | k_is)
    (case es3_3 => first | rfl | k_is)
    (case ek3_3 => first | rfl | k_is)
    (case es3_4 => first | rfl | k_is)
    (case ek3_4 => first | rfl | k_is)
    (case es3_5 => first | rfl | k_is)
    (case ek3_5 => first | rfl | k_is)
    (case es3_6 => first | rfl | k_is)
    (case ek3_6 => first | rfl | k_is)
    (case ev3 => first | rfl | k_is)
    (case ega4 => k_is)
    (case egt4 => k_is)
    (case ehd4 => k_is)
    (case ecl4 => k_is)
    (case emr4 => k_is)
    (case es4_0 => first | rfl | k_is)
    (case ek4_0 => first | rfl | k_is)
    (case es4_1 => first | rfl | k_is)
    (case ek4_1 => first | rfl | k_is)
    (case es4_2 => first | rfl | k_is)
    (case ek4_2 => first | rfl | k_is)
    (case es4_3 => first | rfl | k_is)
    (case ek4_3 => first | rfl | k_is)
    (case es4_4 => first | rfl | k_is)
    (case ek4_4 => first | rfl | k_is)
    (case es4_5 => first | rfl | k_is)
    (case ek4_5 => first | rfl | k_is)
    (case es4_6 => first | rfl | k_is)
    (case ek4_6 => first | rfl | k_is)
    (case ev4 => first | rfl | k_is)
    (case ega5 => k_is)
    (case egt5 => k_is)
    (case ehd5 => k_is)
    (case ecl5 => k_is)
    (case emr5 => k_is)
    (case es5_0 => first | rfl | k_is)
    (case ek5_0 => first | rfl | k_is)
    (case es5_1 => first | rfl | k_is)
    (case ek5_1 => first | rfl | k_is)
    (case es5_2 => first | rfl | k_is)
    (case ek5_2 => first | rfl | k_is)
    (case es5_3 => first | rfl | k_is)
    (case ek5_3 => first | rfl | k_is)
    (case es5_4 => first | rfl | k_is)
    (case ek5_4 => first | rfl | k_is)
    (case es5_5 => first | rfl | k_is)
    (case ek5_5 => first | rfl | k_is)
    (case es5_6 => first | rfl | k_is)
    (case ek5_6 => first | rfl | k_is)
    (case ev5 => first | rfl | k_is)
    (case ega6 => k_is)
    (case egt6 => k_is)
    (case ehd6 => k_is)
    (case ecl6 => k_is)
    (case emr6 => k_is)
    (case es6_0 => first | rfl | k_is)
    (case ek6_0 => first | rfl | k_is)
    (case es6_1 => first | rfl | k_is)
    (case ek6_1 => first | rfl | k_is)
    (case es6_2 => first | rfl | k_is)
    (case ek6_2 => first | rfl | k_is)
    (case es6_3 => first | rfl | k_is)
    (case ek6_3 => first | rfl | k_is)
    (case es6_4 => first | rfl | k_is)
    (case ek6_4 => first | rfl | k_is)
    (case es6_5 => first | rfl | k_is)
    (case ek6_5 => first | rfl | k_is)
    (case es6_6 => first | rfl | k_is)
    (case ek6_6 => first | rfl | k_is)
    (case ev6 => first | rfl | k_is)
    (case frd0 => k_is)
    (case fga0 => k_is)
    (case fvi0 => k_is)
    (case lx4 => k_is)
    (case rv4 => first | rfl | decide +kernel)
    (case xs4 => k_is)
    (case xi4 => k_is)
    (case xy4 => k_is)
    (case lg4 => k_is)
    (case cg4 => k_is)
    (case kg4 => k_is)
    (case z0 => k_is)
    (case z1 => k_is)
    (case z2 => k_is)
    (case z3 => k_is)
    (case z4 => k_is)
    (case z5 => k_is)
    (case z6 => k_is)
    (case z7 => k_is)
    (case z8 => k_is)
    (case z9 => k_is)
    (case z10 => k_is)
    (case z11 => k_is)
    (case z12 => k_is)
    (case y0 => k_is)
    (case y1 => k_is)
    (case y2 => k_is)
    (case y3 => k_is)
    (case y4 => k_is)
    (case y5 => k_is)
    (case y6 => k_is)
    (case y7 => k_is)
    (case y8 => k_is)
    (case nl => rfl)

