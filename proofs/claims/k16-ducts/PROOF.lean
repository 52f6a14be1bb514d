import PyProof.Rows.All
import Wide.All
import OpenK.AllK
import Wide.FinOn
import HandS.ForMost
import HandS.ForExc
import HandS.CallSlots
import HandS.CallLocal
import HandS.IsInst
import HandS.Conv
import HandS.Flow
import HandS.Style
import HandS.TupAny
import HandS.TupMul
import HandS.TryMany
import HandS.ExcInit
import HandS.ExcField
import HandS.Lambda
import HandS.DictComp
import HandS.Deep
import KE.DataEq
import HandS.SortRule
import KE.SortData
import KE.GoesEnumKw
import HandS.Defaults
import HandS.EndTab
import PyProof.ReprRoads
import HandS.Gcd
import KE.KNestM
import PyProof.ReprLen
import HandS.Star
import HandS.Zip
import PySem.Challenge.RW_ventways_k16_whole_ducts
set_option Elab.async false
set_option linter.all false
set_option maxRecDepth 100000
set_option maxHeartbeats 4000000
/-! VL: a value layer over HandS: readings are runs of plain functions over data. -/
namespace VL
open PySem PySem.Spec PyProof.Rows L2

inductive Ty where
  | non | bool | int | str | list | tuple | dict
  deriving DecidableEq
def Ty.name : Ty → String
  | .non => "NoneType" | .bool => "bool" | .int => "int" | .str => "str" | .list => "list" | .tuple => "tuple" | .dict => "dict"
/-- data: what a Python value is worth -/
inductive D where
  | non | bl (b : Bool) | int (i : Int) | str (s : Str)
  | lst (xs : List D) | tup (xs : List D)
  | dic (t : Bool) (kvs : List (D × D))
  | ins (c : Nat) (fs : List D)
  | fn (f : Nat)
  | scr (xs : List Int)
  | ty (t : Ty)
instance : Inhabited D := ⟨.non⟩
/-- a value: data, or a mutable object -/
inductive Vl where
  | d (x : D)
  | o (i : Nat)
/-- mutable objects -/
inductive O where
  | lst (xs : List D)
  | dic (t : Bool) (kvs : List (D × D))
  | ins (c : Nat) (fs : List D)
  | lck (t : Bool) (kvs : List (D × D))
  | dead
def O.alive : O → Bool
  | .dead => false
  | _ => true

/-- names of a law's text -/
structure Gm where
  K : PySem.W.Frag
  ca : Nat → Addr
  fd : Nat → List Str
  fa : Nat → Addr
  T : List (Addr × Str)

structure Wd where
  H : Hp
  Hs : Hp
  μ : Nat → Addr
  W : List O

def toKey : D → Option Key
  | .int i => some (.inl i)
  | .str s => some (.inr s)
  | _ => none
def toKeyL : List D → Option (List Key)
  | [] => some []
  | d :: r => match toKey d, toKeyL r with
    | some k, some ks => some (k :: ks)
    | _, _ => none
def toKeys : D → Option (List Key)
  | .tup ds => toKeyL ds
  | _ => none

variable (G : Gm)
mutual
def Rep (w : Wd) : D → V → Prop
  | .non, v => v = .non
  | .bl b, v => v = .bl b
  | .int i, v => v = .int i
  | .str s, v => v = .str s
  | .lst ds, v => ∃ a vs, v = .ref a ∧ w.Hs a = some (.lst vs) ∧ Reps w ds vs
  | .tup ds, v => ∃ a vs, v = .ref a ∧ w.Hs a = some (.tup vs) ∧ Reps w ds vs
  | .dic false kvs, v => ∃ a kv, v = .ref a ∧ w.Hs a = some (.dK kv) ∧ RepK w kvs kv
  | .dic true kvs, v => ∃ a kv, v = .ref a ∧ w.Hs a = some (.dT kv) ∧ RepT w kvs kv
  | .ins c fs, v => ∃ a dx vs, v = .ref a ∧ w.Hs a = some (.ins (G.ca c) dx ((G.fd c).zip vs)) ∧ Reps w fs vs
  | .fn f, v => v = .ref (G.fa f)
  | .scr xs, v => ∃ a, v = .ref a ∧ SqL G.K w.Hs a (xs.map V.int)
  | .ty t, v => v = .ty t.name
def Reps (w : Wd) : List D → List V → Prop
  | [], vs => vs = []
  | d :: ds, vs => ∃ v r, vs = v :: r ∧ Rep w d v ∧ Reps w ds r
def RepK (w : Wd) : List (D × D) → List (Key × V) → Prop
  | [], kv => kv = []
  | (k, d) :: ds, kv => ∃ k' v r, kv = (k', v) :: r ∧ toKey k = some k' ∧ Rep w d v ∧ RepK w ds r
def RepT (w : Wd) : List (D × D) → List (List Key × V) → Prop
  | [], kv => kv = []
  | (k, d) :: ds, kv => ∃ k' v r, kv = (k', v) :: r ∧ toKeys k = some k' ∧ Rep w d v ∧ RepT w ds r
end

def RepV (w : Wd) : Vl → V → Prop
  | .d x, v => Rep G w x v
  | .o i, v => i < w.W.length ∧ v = .ref (w.μ i)
def RepVs (w : Wd) : List Vl → List V → Prop
  | [], vs => vs = []
  | d :: ds, vs => ∃ v r, vs = v :: r ∧ RepV G w d v ∧ RepVs w ds r
def RepO (w : Wd) (a : Addr) : O → Prop
  | .lst ds => ∃ vs, w.H a = some (.lst vs) ∧ Reps G w ds vs
  | .dic false kvs => ∃ kv, w.H a = some (.dK kv) ∧ RepK G w kvs kv
  | .dic true kvs => ∃ kv, w.H a = some (.dT kv) ∧ RepT G w kvs kv
  | .lck false kvs => ∃ o kv, w.H a = some (.frz o (.dK kv)) ∧ RepK G w kvs kv
  | .lck true kvs => ∃ o kv, w.H a = some (.frz o (.dT kv)) ∧ RepT G w kvs kv
  | .ins c fs => ∃ dx vs, w.H a = some (.ins (G.ca c) dx ((G.fd c).zip vs)) ∧ Reps G w fs vs ∧ vs.length ≤ (G.fd c).length
  | .dead => True

/-- nothing, or a table -/
def Loose (o : Option HO) : Prop := o = none ∨ ∃ ps, o = some (.tbl ps)
/-- what may stand apart -/
def prv : HO → Bool
  | .tup _ => false
  | .tbl _ => false
  | .ext _ => false
  | _ => true
/-- the future of a world -/
structure Le (w w' : Wd) : Prop where
  hs : ∀ a o, w.Hs a = some o → w'.Hs a = some o
  ln : w.W.length ≤ w'.W.length
  mu : ∀ i, i < w.W.length → w'.μ i = w.μ i
  fr : ∀ a o, w.H a = some o → (∀ i, i < w.W.length → w.μ i ≠ a) → (∀ ps, o ≠ .tbl ps) → w'.H a = some o
  pv : ∀ a o, w.H a = some o → prv o = true → w.Hs a = none → (∀ i, i < w.W.length → w.μ i ≠ a) → w'.Hs a = none
  nw : ∀ i, w.W.length ≤ i → i < w'.W.length → Loose (w.H (w'.μ i))
  th : ∀ a, Loose (w'.H a) → Loose (w.H a)

def dicO : HO → Bool
  | .dK _ => true
  | .dT _ => true
  | _ => false
structure Good (w : Wd) : Prop where
  sh : ∀ a o, w.Hs a = some o → w.H a = some o ∨ ∃ od, w.H a = some (.frz od o) ∧ dicO o = true
  ob : ∀ i o, w.W[i]? = some o → o.alive = true → w.Hs (w.μ i) = none ∧ RepO G w (w.μ i) o
  inj : ∀ i j o o', w.W[i]? = some o → w.W[j]? = some o' → o.alive = true → o'.alive = true → w.μ i = w.μ j → i = j
  tb : LamX.Tabs G.T w.H
  nt : ∀ a ps, w.Hs a ≠ some (.tbl ps)
  th : ∀ i, i < w.W.length → ¬ Loose (w.H (w.μ i))

section
variable {G : Gm} {w w1 w2 w' : Wd}
theorem Le.refl (w : Wd) : Le w w := ⟨fun _ _ h => h, Nat.le_refl _, fun _ _ => rfl, fun _ _ h _ _ => h, fun _ _ _ _ h _ => h, fun i h1 h2 => absurd h2 (Nat.not_lt.mpr h1), fun _ h => h⟩
theorem loose_some {o : HO} (h : Loose (some o)) (ht : ∀ ps, o ≠ .tbl ps) : False := by
  rcases h with h | ⟨ps, h⟩
  · cases h
  · exact ht ps (Option.some.inj h)
theorem Le.trans (a : Le w w1) (b : Le w1 w2) : Le w w2 := by
  have key : ∀ x o, w.H x = some o → (∀ ps, o ≠ .tbl ps) → (∀ i, i < w.W.length → w.μ i ≠ x) → ∀ i, i < w1.W.length → w1.μ i ≠ x := fun x o hx ht hn i hi e => by
    by_cases h : i < w.W.length
    · exact hn i h ((a.mu i h).symm.trans e)
    · have := a.nw i (Nat.not_lt.mp h) hi
      rw [e, hx] at this; exact loose_some this ht
  refine ⟨fun x o h => b.hs x o (a.hs x o h), Nat.le_trans a.ln b.ln, fun i hi => (b.mu i (Nat.lt_of_lt_of_le hi a.ln)).trans (a.mu i hi), fun x o h hn ht => ?_, fun x o h hp hs hn => ?_, fun i h1 h2 => ?_, fun x h => a.th x (b.th x h)⟩
  · exact b.fr x o (a.fr x o h hn ht) (key x o h ht hn) ht
  · exact b.pv x o (a.fr x o h hn (fun ps z => by subst z; cases hp)) hp (a.pv x o h hp hs hn) (key x o h (fun ps z => by subst z; cases hp) hn)
  · by_cases h : i < w1.W.length
    · rw [b.mu i h]; exact a.nw i h1 h
    · exact a.th _ (b.nw i (Nat.not_lt.mp h) h2)

theorem rd_mono (l : ∀ a o, w.Hs a = some o → w'.Hs a = some o) {a : Addr} {u : HO} (h : Rd w.Hs a u) : Rd w'.Hs a u := by
  rcases h with h | ⟨o, h⟩
  · exact .inl (l a _ h)
  · exact .inr ⟨o, l a _ h⟩
theorem sql_mono (l : ∀ a o, w.Hs a = some o → w'.Hs a = some o) {a : Addr} {xs : List V} (h : SqL G.K w.Hs a xs) : SqL G.K w'.Hs a xs := by
  rcases h with h | h
  · exact .inl (rd_mono l h)
  · exact .inr h
theorem sqt_mono (l : ∀ a o, w.Hs a = some o → w'.Hs a = some o) {a : Addr} {xs : List V} (h : SqT G.K w.Hs a xs) : SqT G.K w'.Hs a xs := by
  rcases h with h | h
  · exact .inl (rd_mono l h)
  · exact .inr h
mutual
theorem Rep.monoS (l : ∀ a o, w.Hs a = some o → w'.Hs a = some o) : ∀ (d : D) (v : V), Rep G w d v → Rep G w' d v
  | .non, _, h => h
  | .bl _, _, h => h
  | .int _, _, h => h
  | .str _, _, h => h
  | .lst ds, v, h => by
    obtain ⟨a, vs, e, s, r⟩ := h
    exact ⟨a, vs, e, l _ _ s, Reps.monoS l ds vs r⟩
  | .tup ds, v, h => by
    obtain ⟨a, vs, e, s, r⟩ := h
    exact ⟨a, vs, e, l _ _ s, Reps.monoS l ds vs r⟩
  | .dic false kvs, v, h => by
    obtain ⟨a, kv, e, s, r⟩ := h
    exact ⟨a, kv, e, l _ _ s, RepK.monoS l kvs kv r⟩
  | .dic true kvs, v, h => by
    obtain ⟨a, kv, e, s, r⟩ := h
    exact ⟨a, kv, e, l _ _ s, RepT.monoS l kvs kv r⟩
  | .ins c fs, v, h => by
    obtain ⟨a, dx, vs, e, s, r⟩ := h
    exact ⟨a, dx, vs, e, l _ _ s, Reps.monoS l fs vs r⟩
  | .fn _, _, h => h
  | .scr xs, v, h => by
    obtain ⟨a, e, s⟩ := h
    exact ⟨a, e, sql_mono l s⟩
  | .ty _, _, h => h
theorem Reps.monoS (l : ∀ a o, w.Hs a = some o → w'.Hs a = some o) : ∀ (ds : List D) (vs : List V), Reps G w ds vs → Reps G w' ds vs
  | [], _, h => h
  | d :: ds, vs, h => by
    obtain ⟨v, r, e, h1, h2⟩ := h
    exact ⟨v, r, e, Rep.monoS l d v h1, Reps.monoS l ds r h2⟩
theorem RepK.monoS (l : ∀ a o, w.Hs a = some o → w'.Hs a = some o) : ∀ (ds : List (D × D)) (vs : List (Key × V)), RepK G w ds vs → RepK G w' ds vs
  | [], _, h => h
  | (k, d) :: ds, vs, h => by
    obtain ⟨k', v, r, e, hk, h1, h2⟩ := h
    exact ⟨k', v, r, e, hk, Rep.monoS l d v h1, RepK.monoS l ds r h2⟩
theorem RepT.monoS (l : ∀ a o, w.Hs a = some o → w'.Hs a = some o) : ∀ (ds : List (D × D)) (vs : List (List Key × V)), RepT G w ds vs → RepT G w' ds vs
  | [], _, h => h
  | (k, d) :: ds, vs, h => by
    obtain ⟨k', v, r, e, hk, h1, h2⟩ := h
    exact ⟨k', v, r, e, hk, Rep.monoS l d v h1, RepT.monoS l ds r h2⟩
end
theorem Rep.mono (l : Le w w') (d : D) (v : V) (h : Rep G w d v) : Rep G w' d v := Rep.monoS l.hs d v h
theorem Reps.mono (l : Le w w') (ds : List D) (vs : List V) (h : Reps G w ds vs) : Reps G w' ds vs := Reps.monoS l.hs ds vs h
theorem RepK.mono (l : Le w w') (ds : List (D × D)) (vs : List (Key × V)) (h : RepK G w ds vs) : RepK G w' ds vs := RepK.monoS l.hs ds vs h
theorem RepT.mono (l : Le w w') (ds : List (D × D)) (vs : List (List Key × V)) (h : RepT G w ds vs) : RepT G w' ds vs := RepT.monoS l.hs ds vs h
theorem RepV.mono (l : Le w w') : ∀ (d : Vl) (v : V), RepV G w d v → RepV G w' d v
  | .d x, v, h => Rep.mono l x v h
  | .o i, v, h => by
    obtain ⟨hi, e⟩ := h
    exact ⟨Nat.lt_of_lt_of_le hi l.ln, by rw [l.mu i hi]; exact e⟩
theorem RepVs.mono (l : Le w w') : ∀ (ds : List Vl) (vs : List V), RepVs G w ds vs → RepVs G w' ds vs
  | [], _, h => h
  | d :: ds, vs, h => by
    obtain ⟨v, r, e, h1, h2⟩ := h
    exact ⟨v, r, e, RepV.mono l d v h1, RepVs.mono l ds r h2⟩
theorem RepVs.length : ∀ {ds : List Vl} {vs : List V}, RepVs G w ds vs → vs.length = ds.length
  | [], _, h => by rw [show _ = _ from h]; rfl
  | d :: ds, vs, h => by
    obtain ⟨v, r, rfl, _, h2⟩ := h
    simp [RepVs.length h2]
theorem Reps.length : ∀ {ds : List D} {vs : List V}, Reps G w ds vs → vs.length = ds.length
  | [], _, h => by rw [show _ = _ from h]; rfl
  | d :: ds, vs, h => by
    obtain ⟨v, r, rfl, _, h2⟩ := h
    simp [Reps.length h2]
theorem Reps.get : ∀ {ds : List D} {vs : List V} {i : Nat} {d : D}, Reps G w ds vs → ds[i]? = some d → ∃ v, vs[i]? = some v ∧ Rep G w d v
  | [], _, _, _, _, e => by simp at e
  | d :: ds, vs, 0, d', h, e => by
    obtain ⟨v, r, rfl, h1, h2⟩ := h
    simp at e; subst e
    exact ⟨v, rfl, h1⟩
  | d :: ds, vs, i + 1, d', h, e => by
    obtain ⟨v, r, rfl, h1, h2⟩ := h
    obtain ⟨u, e1, e2⟩ := Reps.get (i := i) (d := d') h2 (by simpa using e)
    exact ⟨u, by simpa using e1, e2⟩
theorem Reps.getV : ∀ {ds : List D} {vs : List V} {i : Nat} {v : V}, Reps G w ds vs → vs[i]? = some v → ∃ d, ds[i]? = some d ∧ Rep G w d v
  | [], vs, _, _, h, e => by rw [show vs = _ from h] at e; simp at e
  | d :: ds, vs, 0, v', h, e => by
    obtain ⟨v, r, rfl, h1, h2⟩ := h
    simp at e; subst e
    exact ⟨d, rfl, h1⟩
  | d :: ds, vs, i + 1, v', h, e => by
    obtain ⟨v, r, rfl, h1, h2⟩ := h
    obtain ⟨u, e1, e2⟩ := Reps.getV (i := i) (v := v') h2 (by simpa using e)
    exact ⟨u, by simpa using e1, e2⟩
theorem Reps.append : ∀ {ds es : List D} {vs us : List V}, Reps G w ds vs → Reps G w es us → Reps G w (ds ++ es) (vs ++ us)
  | [], _, vs, _, h, h' => by rw [show vs = _ from h]; exact h'
  | d :: ds, _, vs, us, h, h' => by
    obtain ⟨v, r, rfl, h1, h2⟩ := h
    exact ⟨v, r ++ us, rfl, h1, Reps.append h2 h'⟩
theorem Reps.drop : ∀ {ds : List D} {vs : List V} (n : Nat), Reps G w ds vs → Reps G w (ds.drop n) (vs.drop n)
  | ds, vs, 0, h => h
  | [], vs, n + 1, h => by rw [show vs = _ from h]; rfl
  | d :: ds, vs, n + 1, h => by
    obtain ⟨v, r, rfl, h1, h2⟩ := h
    exact Reps.drop n h2
theorem Reps.take : ∀ {ds : List D} {vs : List V} (n : Nat), Reps G w ds vs → Reps G w (ds.take n) (vs.take n)
  | ds, vs, 0, h => rfl
  | [], vs, n + 1, h => by rw [show vs = _ from h]; rfl
  | d :: ds, vs, n + 1, h => by
    obtain ⟨v, r, rfl, h1, h2⟩ := h
    exact ⟨v, r.take n, rfl, h1, Reps.take n h2⟩
theorem Reps.set : ∀ {ds : List D} {vs : List V} {d : D} {v : V} (n : Nat), Reps G w ds vs → Rep G w d v → Reps G w (ds.set n d) (vs.set n v)
  | [], vs, _, _, n, h, _ => by rw [show vs = _ from h]; rfl
  | d :: ds, vs, d', v', 0, h, h' => by
    obtain ⟨v, r, rfl, h1, h2⟩ := h
    exact ⟨v', r, rfl, h', h2⟩
  | d :: ds, vs, d', v', n + 1, h, h' => by
    obtain ⟨v, r, rfl, h1, h2⟩ := h
    exact ⟨v, r.set n v', rfl, h1, Reps.set n h2 h'⟩
theorem Reps.one {d : D} {v : V} (h : Rep G w d v) : Reps G w [d] [v] := ⟨v, [], rfl, h, rfl⟩
theorem Reps.nil : Reps G w [] [] := rfl
theorem Reps.cons {d : D} {ds : List D} {v : V} {vs : List V} (h : Rep G w d v) (r : Reps G w ds vs) : Reps G w (d :: ds) (v :: vs) := ⟨v, vs, rfl, h, r⟩
theorem Reps.eraseIdx : ∀ {ds : List D} {vs : List V} (n : Nat), Reps G w ds vs → Reps G w (ds.eraseIdx n) (vs.eraseIdx n)
  | [], vs, n, h => by rw [show vs = _ from h]; rfl
  | d :: ds, vs, 0, h => by
    obtain ⟨v, r, rfl, h1, h2⟩ := h
    exact h2
  | d :: ds, vs, n + 1, h => by
    obtain ⟨v, r, rfl, h1, h2⟩ := h
    exact ⟨v, r.eraseIdx n, rfl, h1, Reps.eraseIdx n h2⟩
theorem Reps.reverse {ds : List D} {vs : List V} (h : Reps G w ds vs) : Reps G w ds.reverse vs.reverse := by
  induction ds generalizing vs with
  | nil => rw [show vs = _ from h]; rfl
  | cons d ds ih =>
    obtain ⟨v, r, rfl, h1, h2⟩ := h
    rw [List.reverse_cons, List.reverse_cons]
    exact (ih h2).append (Reps.one h1)
end
end VL
set_option Elab.async false
set_option linter.all false
set_option maxRecDepth 100000
set_option maxHeartbeats 4000000
namespace VL
open PySem PySem.Spec PyProof.Rows L2
/-! ### runs -/
inductive Res (α : Type) where
  | ok (a : α) (W : List O)
  | exc (c : Nat) (fs : List D) (W : List O)
  | bad
abbrev Rho := List (Option Vl)
abbrev Sem (α : Type) := Rho → List O → Res α
def Res.bind {α β : Type} (r : Res α) (f : α → List O → Res β) : Res β := match r with
  | .ok a W => f a W
  | .exc c fs W => .exc c fs W
  | .bad => .bad
def ofO {α : Type} (o : Option α) (W : List O) : Res α := match o with
  | some d => .ok d W
  | none => .bad
@[simp] theorem bind_ok {α β : Type} (a : α) (W : List O) (f : α → List O → Res β) : (Res.ok a W).bind f = f a W := rfl
@[simp] theorem bind_exc {α β : Type} (c : Nat) (fs : List D) (W : List O) (f : α → List O → Res β) : (Res.exc c fs W : Res α).bind f = .exc c fs W := rfl
@[simp] theorem bind_bad {α β : Type} (f : α → List O → Res β) : (Res.bad : Res α).bind f = .bad := rfl
theorem bind_assoc {α β γ : Type} (r : Res α) (f : α → List O → Res β) (g : β → List O → Res γ) : (r.bind f).bind g = r.bind fun a W => (f a W).bind g := by cases r <;> rfl
@[simp] theorem ofO_some {α : Type} (a : α) (W : List O) : ofO (some a) W = .ok a W := rfl
@[simp] theorem ofO_none {α : Type} (W : List O) : (ofO none W : Res α) = .bad := rfl

def RepX (G : Gm) (w : Wd) (dd : Addr) (c : Nat) (fs : List D) : Prop :=
  ∃ xs vs, w.H dd = some (.xd xs) ∧ Reps G w fs vs ∧ ∀ (i : Nat) (f : Str) (v : V), (G.fd c)[i]? = some f → vs[i]? = some v → xs.lookup f = some v
def Post (G : Gm) {α β : Type} (R : Wd → α → β → Prop) (Wx : WX) (σ : L2.St) (w : Wd) (r : Res α) (Q : β → Hp → Prop) : Prop := match r with
  | .ok d Wo => ∀ w' v, Le w w' → Good G w' → w'.W = Wo → R w' d v → Q v w'.H
  | .exc c fs Wo => ∀ w' dd, Le w w' → Good G w' → w'.W = Wo → RepX G w' dd c fs → Wx (.ref (G.ca c)) (some dd) σ w'.H
  | .bad => False
def ER (G : Gm) (w : Wd) (ρ : Rho) (σ : L2.St) : Prop := σ.length = ρ.length ∧ ∀ (i : Nat) (d : Vl), ρ[i]? = some (some d) → ∃ v, σ[i]? = some (some v) ∧ RepV G w d v
def tV (G : Gm) {α β : Type} (R : Wd → α → β → Prop) (Wx : WX) (f : Sem α) : L2.St → Hp → (β → Hp → Prop) → Prop := fun σ H Q =>
  ∃ w ρ, w.H = H ∧ Good G w ∧ ER G w ρ σ ∧ Post G R Wx σ w (f ρ w.W) Q
abbrev RB : Wd → Bool → Bool → Prop := fun _ a b => a = b
abbrev tE (G : Gm) (Wx : WX) (f : Sem Vl) : TE := tV G (RepV G) Wx f
abbrev tT (G : Gm) (Wx : WX) (f : Sem Bool) : TT := tV G RB Wx f
abbrev tA (G : Gm) (Wx : WX) (f : Sem (List Vl)) : TA := tV G (RepVs G) Wx f
abbrev SE (G : Gm) (X : Cx) (Wx : WX) (e : Expr) (f : Sem Vl) : Prop := PE X e (tE G Wx f)
abbrev ST (G : Gm) (X : Cx) (Wx : WX) (e : Expr) (f : Sem Bool) : Prop := PT X e (tT G Wx f)
abbrev SW (G : Gm) (X : Cx) (Wx : WX) (e : Expr) (f : Sem Bool) : Prop := PW X e (tT G Wx f)
abbrev SA (G : Gm) (X : Cx) (Wx : WX) (es : List Expr) (f : Sem (List Vl)) : Prop := PA X es (tA G Wx f)

theorem PE.imp {X : Cx} {e : Expr} {t t' : TE} (h : PE X e t) (k : ∀ σ H Q, t' σ H Q → t σ H Q) : PE X e t' := ⟨fun pins s σ H Q I q => h.run pins s σ H Q I (k σ H Q q)⟩
theorem PT.imp {X : Cx} {e : Expr} {t t' : TT} (h : PT X e t) (k : ∀ σ H Q, t' σ H Q → t σ H Q) : PT X e t' := ⟨fun pins s σ H Q I q => h.run pins s σ H Q I (k σ H Q q)⟩
theorem PW.imp {X : Cx} {e : Expr} {t t' : TT} (h : PW X e t) (k : ∀ σ H Q, t' σ H Q → t σ H Q) : PW X e t' := ⟨fun wh pins s σ H Q I q => h.run wh pins s σ H Q I (k σ H Q q)⟩
theorem PA.imp {X : Cx} {es : List Expr} {t t' : TA} (h : PA X es t) (k : ∀ σ H Q, t' σ H Q → t σ H Q) : PA X es t' := ⟨fun p pins s σ H Q I q => h.run p pins s σ H Q I (k σ H Q q)⟩
theorem PS.imp {X : Cx} {st : Stmt} {t t' : TS} (h : PS X st t) (k : ∀ D σ H, t' D σ H → t D σ H) : PS X st t' := ⟨fun pins s σ H D I q => h.run pins s σ H D I (k D σ H q)⟩
theorem PSs.imp {X : Cx} {st : List Stmt} {t t' : TS} (h : PSs X st t) (k : ∀ D σ H, t' D σ H → t D σ H) : PSs X st t' := ⟨fun pins s σ H D I q => h.run pins s σ H D I (k D σ H q)⟩

section
variable {G : Gm} {α β γ δ : Type} {R : Wd → α → β → Prop} {R' : Wd → γ → δ → Prop} {Wx : WX} {σ : L2.St} {w w' : Wd} {ρ : Rho} {H : Hp}
theorem ER.mono (l : Le w w') (h : ER G w ρ σ) : ER G w' ρ σ := ⟨h.1, fun i d e => by
  obtain ⟨v, h1, h2⟩ := h.2 i d e
  exact ⟨v, h1, RepV.mono l d v h2⟩⟩
theorem ER.get {i : Nat} {d : Vl} (h : ER G w ρ σ) (e : ρ[i]? = some (some d)) : ∃ v, σ[i]? = some (some v) ∧ RepV G w d v := h.2 i d e
theorem ER.set {i : Nat} {d : Vl} {v : V} (h : ER G w ρ σ) (hr : RepV G w d v) : ER G w (ρ.set i (some d)) (σ.set i (some v)) := ⟨by rw [List.length_set, List.length_set]; exact h.1, fun j d' e => by
  by_cases hj : i = j
  · subst hj
    by_cases hi : i < ρ.length
    · rw [List.getElem?_set_self hi] at e
      cases e
      exact ⟨v, by rw [List.getElem?_set_self (by rw [h.1]; exact hi)], hr⟩
    · rw [List.getElem?_eq_none (by rw [List.length_set]; omega)] at e; cases e
  · rw [List.getElem?_set_ne hj] at e
    obtain ⟨u, h1, h2⟩ := h.2 j d' e
    exact ⟨u, by rw [List.getElem?_set_ne hj]; exact h1, h2⟩⟩
theorem RepX.mono_H {dd : Addr} {c : Nat} {fs : List D} (l : Le w w') (g : Good G w) (h : RepX G w dd c fs) (hm : ∀ i, i < w.W.length → w.μ i ≠ dd) : RepX G w' dd c fs := by
  obtain ⟨xs, vs, h1, h2, h3⟩ := h
  exact ⟨xs, vs, l.fr _ _ h1 hm (fun _ z => by cases z), Reps.mono l _ _ h2, h3⟩
theorem Post.le {r : Res α} {Q : β → Hp → Prop} (h : Post G R Wx σ w r Q) (l : Le w w') : Post G R Wx σ w' r Q := by
  cases r with
  | ok a Wo => exact fun w2 v l2 g e rp => h w2 v (l.trans l2) g e rp
  | exc c fs Wo => exact fun w2 dd l2 g e rp => h w2 dd (l.trans l2) g e rp
  | bad => exact h
theorem Post.bind {r : Res α} {f : α → List O → Res γ} {Q : δ → Hp → Prop} (h : Post G R' Wx σ w (r.bind f) Q) :
    Post G R Wx σ w r (fun b H1 => ∃ w1 a, w1.H = H1 ∧ Le w w1 ∧ Good G w1 ∧ R w1 a b ∧ Post G R' Wx σ w1 (f a w1.W) Q) := by
  cases r with
  | ok a Wo => exact fun w1 v l g e rp => ⟨w1, a, rfl, l, g, rp, by rw [e]; exact Post.le h l⟩
  | exc c fs Wo => exact h
  | bad => exact h
theorem Post.mono {r : Res α} {Q Q' : β → Hp → Prop} (h : Post G R Wx σ w r Q) (k : ∀ b H, Q b H → Q' b H) : Post G R Wx σ w r Q' := by
  cases r with
  | ok a Wo => exact fun w1 v l g e rp => k _ _ (h w1 v l g e rp)
  | exc c fs Wo => exact h
  | bad => exact h
theorem tV.bind {f : Sem α} {g : Rho → α → List O → Res γ} {Q : δ → Hp → Prop} (h : tV G R' Wx (fun ρ W => (f ρ W).bind (g ρ)) σ H Q) :
    tV G R Wx f σ H (fun b H1 => ∃ w1 a ρ, w1.H = H1 ∧ Good G w1 ∧ ER G w1 ρ σ ∧ R w1 a b ∧ Post G R' Wx σ w1 (g ρ a w1.W) Q) := by
  obtain ⟨w, ρ, e, gd, er, p⟩ := h
  refine ⟨w, ρ, e, gd, er, (Post.bind p).mono fun b H1 ⟨w1, a, e1, l1, g1, r1, p1⟩ => ⟨w1, a, ρ, e1, g1, er.mono l1, r1, p1⟩⟩
theorem Post.ret {a : α} {b : β} {Q : β → Hp → Prop} (h : Post G R Wx σ w (.ok a w.W) Q) (g : Good G w) (r : R w a b) : Q b w.H := h w b (Le.refl w) g rfl r
theorem Post.ofO {o : Option α} {Wo : List O} {Q : β → Hp → Prop} (h : Post G R Wx σ w (ofO o Wo) Q) : ∃ a, o = some a ∧ Post G R Wx σ w (.ok a Wo) Q := by
  cases o with
  | some a => exact ⟨a, rfl, h⟩
  | none => exact h.elim
end

/-! ### the ambient facts -/
structure VC (G : Gm) (X : Cx) (k : Nat) (Wx : WX) : Prop where
  K : X.K = G.K
  calm : X.calm = true
  nd : X.N.Nodup
  tk : Takes X Wx
  po : PassesOwn (model X.prog X.w) X.A X.env X.xe
  hr : Room k X.A
section
variable {G : Gm} {X : Cx} {k : Nat} {Wx : WX}
theorem VC.mono {j : Nat} (vc : VC G X k Wx) (h : j ≤ k) : VC G X j Wx := ⟨vc.K, vc.calm, vc.nd, vc.tk, vc.po, vc.hr.mono h⟩
theorem VC.hu (vc : VC G X k Wx) : X.A.units + 1 < cLine := hu_of vc.hr
/-- the block of a comprehension -/
theorem VC.blk (vc : VC G X k Wx) (s : Shared) (H : Hp) (scope : Scope) (cenv : PySem.Env) (fp : List Addr) : VC G (X.blk s H scope cenv fp) k (fun _ _ _ _ => False) :=
  ⟨vc.K, vc.calm, vc.nd, takes0, PassesOwn.never, vc.hr⟩

/-! ### names, constants -/
def eVar (i : Nat) : Sem Vl := fun ρ W => match ρ[i]? with
  | some (some d) => .ok d W
  | _ => .bad
def eC (d : D) : Sem Vl := fun _ W => .ok (.d d) W
theorem se_var {i : Nat} {x : Str} {pos : Pos} (hN : X.N[i]? = some x := by rfl) (hv : Vis X.env.scope x := by first | exact Or.inl rfl | exact Or.inr (Or.inl rfl) | exact Or.inr (Or.inr rfl))
    (hd : (x == ("__debug__" : Str)) = false := by decide) (hcd : (x == ("__classdict__" : Str)) = false := by decide) : SE G X Wx (.Name x pos) (eVar i) := by
  refine PE.imp (pe_var hN hv hd hcd) fun σ H Q h => ?_
  obtain ⟨w, ρ, rfl, g, er, p⟩ := h
  unfold eVar at p
  split at p
  · rename_i d e
    obtain ⟨v, e1, r⟩ := er.get e
    exact ⟨v, e1, p.ret g r⟩
  · exact p.elim
theorem se_int {i : Int} {j : Nat} {pos : Pos} : SE G X Wx (.Constant (.int i) j pos) (eC (.int i)) := PE.imp pe_int fun σ H Q ⟨w, ρ, e, g, er, p⟩ => by subst e; exact p.ret (b := V.int i) g rfl
theorem se_str {x : Str} {j : Nat} {pos : Pos} : SE G X Wx (.Constant (.str x) j pos) (eC (.str x)) := PE.imp pe_str fun σ H Q ⟨w, ρ, e, g, er, p⟩ => by subst e; exact p.ret (b := V.str x) g rfl
theorem se_bl {b : Bool} {j : Nat} {pos : Pos} : SE G X Wx (.Constant (.bool b) j pos) (eC (.bl b)) := PE.imp pe_bl fun σ H Q ⟨w, ρ, e, g, er, p⟩ => by subst e; exact p.ret (b := V.bl b) g rfl
theorem se_non {j : Nat} {pos : Pos} : SE G X Wx (.Constant .none j pos) (eC .non) := PE.imp pe_non fun σ H Q ⟨w, ρ, e, g, er, p⟩ => by subst e; exact p.ret (b := V.non) g rfl
/-- a constant of the module -/
theorem se_glob {x : Str} {d : D} {v : V} {u : Value} {pos : Pos} (hg : Gl X x) (hm : X.mg x = some u) (r : RelV v u) (hr : ∀ w, Rep G w d v) (hd : (x == ("__debug__" : Str)) = false := by decide) : SE G X Wx (.Name x pos) (eC d) :=
  PE.imp (pe_glob hg hm r hd) fun σ H Q ⟨w, ρ, e, g, er, p⟩ => by subst e; exact p.ret g (hr w)

/-! ### arguments -/
def aNil : Sem (List Vl) := fun _ W => .ok [] W
def aCons (f : Sem Vl) (fs : Sem (List Vl)) : Sem (List Vl) := fun ρ W => (f ρ W).bind fun d W1 => (fs ρ W1).bind fun ds W2 => .ok (d :: ds) W2
theorem sa_nil : SA G X Wx [] aNil := PA.imp pa_nil fun σ H Q ⟨w, ρ, e, g, er, p⟩ => by subst e; exact p.ret (b := ([] : List V)) g rfl
theorem sa_cons {e : Expr} {es : List Expr} {f : Sem Vl} {fs : Sem (List Vl)} (h : SE G X Wx e f) (hs : SA G X Wx es fs) (hst : starEach (e :: es) X.env = (false, eval e X.env) :: starEach es X.env := by rfl) :
    SA G X Wx (e :: es) (aCons f fs) := by
  refine PA.imp (pa_cons h hs hst) fun σ H Q hh => ?_
  refine (tV.bind (R := RepV G) hh).elim fun w hw => ⟨w, ?_⟩
  obtain ⟨ρ, e, g, er, p⟩ := hw
  refine ⟨ρ, e, g, er, p.mono fun v H1 hq => ?_⟩
  obtain ⟨w1, a, ρ1, rfl, g1, er1, r1, p1⟩ := hq
  refine ⟨w1, ρ1, rfl, g1, er1, (Post.bind (R := RepVs G) p1).mono fun vs H2 hq2 => ?_⟩
  obtain ⟨w2, ds, rfl, l2, g2, r2, p2⟩ := hq2
  exact p2.ret (b := v :: vs) g2 ⟨v, vs, rfl, RepV.mono l2 _ _ r1, r2⟩

/-! ### operators by values -/
/-- what a value is worth -/
def cont (W : List O) : Vl → Option D
  | .d x => some x
  | .o i => match W[i]? with
    | some (.lst xs) => some (.lst xs)
    | some (.dic t k) => some (.dic t k)
    | some (.lck t k) => some (.dic t k)
    | some (.ins c fs) => some (.ins c fs)
    | _ => none
def conts (W : List O) : List Vl → Option (List D)
  | [] => some []
  | v :: vs => match cont W v, conts W vs with
    | some d, some ds => some (d :: ds)
    | _, _ => none
@[simp] theorem cont_d (W : List O) (x : D) : cont W (.d x) = some x := rfl
@[simp] theorem conts_nil (W : List O) : conts W [] = some [] := rfl
def RdD (G : Gm) (w : Wd) (a : Addr) : Bool → List (D × D) → Prop
  | false, kvs => ∃ kv, Rd w.H a (.dK kv) ∧ RepK G w kvs kv
  | true, kvs => ∃ kv, Rd w.H a (.dT kv) ∧ RepT G w kvs kv
/-- v reads as x now -/
def RepC (G : Gm) (w : Wd) : D → V → Prop
  | .lst ds, v => ∃ a vs, v = .ref a ∧ w.H a = some (.lst vs) ∧ Reps G w ds vs
  | .dic t kvs, v => ∃ a, v = .ref a ∧ RdD G w a t kvs
  | .ins c fs, v => ∃ a dx vs, v = .ref a ∧ w.H a = some (.ins (G.ca c) dx ((G.fd c).zip vs)) ∧ Reps G w fs vs
  | x, v => Rep G w x v
def RepCs (G : Gm) (w : Wd) : List D → List V → Prop
  | [], vs => vs = []
  | d :: ds, vs => ∃ v r, vs = v :: r ∧ RepC G w d v ∧ RepCs G w ds r
section
variable {w : Wd}
theorem Good.shN {a : Addr} {o : HO} (g : Good G w) (h : w.Hs a = some o) (hd : dicO o = false) : w.H a = some o := by
  rcases g.sh _ _ h with z | ⟨_, _, d⟩
  · exact z
  · rw [hd] at d; cases d
theorem Good.shR {a : Addr} {o : HO} (g : Good G w) (h : Rd w.Hs a o) : Rd w.H a o := by
  rcases h with h | ⟨ob, h⟩
  · rcases g.sh _ _ h with z | ⟨od, z, _⟩
    · exact .inl z
    · exact .inr ⟨od, z⟩
  · rcases g.sh _ _ h with z | ⟨od, z, d⟩
    · exact .inr ⟨ob, z⟩
    · cases d
theorem Rep.now (g : Good G w) : ∀ {d : D} {v : V}, Rep G w d v → RepC G w d v
  | .lst ds, v, h => by obtain ⟨a, vs, e, s, r⟩ := h; exact ⟨a, vs, e, g.shN s rfl, r⟩
  | .tup ds, v, h => h
  | .dic false kvs, v, h => by obtain ⟨a, kv, e, s, r⟩ := h; exact ⟨a, e, kv, g.shR (.inl s), r⟩
  | .dic true kvs, v, h => by obtain ⟨a, kv, e, s, r⟩ := h; exact ⟨a, e, kv, g.shR (.inl s), r⟩
  | .ins c fs, v, h => by obtain ⟨a, dx, vs, e, s, r⟩ := h; exact ⟨a, dx, vs, e, g.shN s rfl, r⟩
  | .non, v, h => h
  | .bl _, v, h => h
  | .int _, v, h => h
  | .str _, v, h => h
  | .fn _, v, h => h
  | .scr _, v, h => h
  | .ty _, v, h => h
theorem RepV.now (g : Good G w) {a : Vl} {v : V} {x : D} (r : RepV G w a v) (c : cont w.W a = some x) : RepC G w x v := by
  cases a with
  | d y => cases c; exact Rep.now g r
  | o i =>
    obtain ⟨hi, e⟩ := r
    unfold cont at c
    cases q : w.W[i]? with
    | none => simp [q] at c
    | some y =>
      cases y <;> simp [q] at c <;> subst c
      · obtain ⟨_, vs, h1, h2⟩ := g.ob i _ q rfl
        exact ⟨_, vs, e, h1, h2⟩
      · rename_i t kvs
        have z := (g.ob i _ q rfl).2
        cases t <;> (obtain ⟨kv, s, t⟩ := z; exact ⟨_, e, kv, .inl s, t⟩)
      · obtain ⟨_, dx, vs, h1, h2, _⟩ := g.ob i _ q rfl
        exact ⟨_, dx, vs, e, h1, h2⟩
      · rename_i t kvs
        have z := (g.ob i _ q rfl).2
        cases t <;> (obtain ⟨o, kv, s, t⟩ := z; exact ⟨_, e, kv, .inr ⟨o, s⟩, t⟩)
theorem RepVs.now (g : Good G w) : ∀ {as : List Vl} {vs : List V} {xs : List D}, RepVs G w as vs → conts w.W as = some xs → RepCs G w xs vs
  | [], vs, xs, r, c => by cases c; exact r
  | a :: as, vs, xs, r, c => by
    obtain ⟨v, r', rfl, r1, r2⟩ := r
    unfold conts at c
    split at c
    · rename_i d ds e1 e2
      cases c
      exact ⟨v, r', rfl, RepV.now g r1 e1, RepVs.now g r2 e2⟩
    · cases c
end
/-- the wish for a value -/
def Want (G : Gm) (w : Wd) (z : D) (Q : VK) : Prop := ∀ w' v, Le w w' → Good G w' → w'.W = w.W → Rep G w' z v → Q v w'.H
theorem Want.here {w : Wd} {z : D} {Q : VK} {v : V} (h : Want G w z Q) (g : Good G w) (r : Rep G w z v) : Q v w.H := h w v (Le.refl w) g rfl r
/-- f does on values what g does on data -/
def OpS (G : Gm) (X : Cx) (f : Value → Value → PySem.Sem Value) (g : D → D → Option D) : Prop :=
  ∃ r : R2, OpR X f r ∧ ∀ w v u a b z Q, Good G w → RepC G w a v → RepC G w b u → g a b = some z → Want G w z Q → r v u w.H Q
def UnS (G : Gm) (X : Cx) (f : Value → PySem.Sem Value) (g : D → Option D) : Prop :=
  ∃ r, UnR X f r ∧ ∀ w v a z Q, Good G w → RepC G w a v → g a = some z → Want G w z Q → r v w.H Q
def CallS (G : Gm) (X : Cx) (f : Value) (g : List D → Option D) : Prop :=
  ∃ r, CallR X f r ∧ ∀ w vs ds z Q, Good G w → RepCs G w ds vs → g ds = some z → Want G w z Q → r vs w.H Q
def on1 (g : D → Option D) (a : Vl) (W : List O) : Res Vl := ofO (((cont W a).bind g).map .d) W
def on2 (g : D → D → Option D) (a b : Vl) (W : List O) : Res Vl := ofO (((cont W a).bind fun x => (cont W b).bind fun y => g x y).map .d) W
def onL (g : List D → Option D) (as : List Vl) (W : List O) : Res Vl := ofO (((conts W as).bind g).map .d) W
def eBin (g : D → D → Option D) (fa fb : Sem Vl) : Sem Vl := fun ρ W => (fa ρ W).bind fun a W1 => (fb ρ W1).bind fun b W2 => on2 g a b W2
def eUn (g : D → Option D) (fa : Sem Vl) : Sem Vl := fun ρ W => (fa ρ W).bind fun a W1 => on1 g a W1
def eCall (g : List D → Option D) (fa : Sem (List Vl)) : Sem Vl := fun ρ W => (fa ρ W).bind fun a W1 => onL g a W1
section
variable {w : Wd} {σ : L2.St} {Q : VK}
theorem Post.want {z : D} (p : Post G (RepV G) Wx σ w (.ok (.d z) w.W) Q) : Want G w z Q := fun w' v l g e r => p w' v l g e r
theorem Post.on1 {g : D → Option D} {a : Vl} (p : Post G (RepV G) Wx σ w (on1 g a w.W) Q) : ∃ x z, cont w.W a = some x ∧ g x = some z ∧ Want G w z Q := by
  obtain ⟨v, e, p⟩ := p.ofO
  obtain ⟨z, e1, rfl⟩ := Option.map_eq_some_iff.mp e
  obtain ⟨x, e2, e3⟩ := Option.bind_eq_some_iff.mp e1
  exact ⟨x, z, e2, e3, p.want⟩
theorem Post.on2 {g : D → D → Option D} {a b : Vl} (p : Post G (RepV G) Wx σ w (on2 g a b w.W) Q) : ∃ x y z, cont w.W a = some x ∧ cont w.W b = some y ∧ g x y = some z ∧ Want G w z Q := by
  obtain ⟨v, e, p⟩ := p.ofO
  obtain ⟨z, e1, rfl⟩ := Option.map_eq_some_iff.mp e
  obtain ⟨x, e2, e3⟩ := Option.bind_eq_some_iff.mp e1
  obtain ⟨y, e4, e5⟩ := Option.bind_eq_some_iff.mp e3
  exact ⟨x, y, z, e2, e4, e5, p.want⟩
theorem Post.onL {g : List D → Option D} {as : List Vl} (p : Post G (RepV G) Wx σ w (onL g as w.W) Q) : ∃ xs z, conts w.W as = some xs ∧ g xs = some z ∧ Want G w z Q := by
  obtain ⟨v, e, p⟩ := p.ofO
  obtain ⟨z, e1, rfl⟩ := Option.map_eq_some_iff.mp e
  obtain ⟨x, e2, e3⟩ := Option.bind_eq_some_iff.mp e1
  exact ⟨x, z, e2, e3, p.want⟩
end
/-- two operands -/
theorem bin2 {γ δ : Type} {R' : Wd → γ → δ → Prop} {fa fb : Sem Vl} {g : Rho → Vl → Vl → List O → Res γ} {σ : L2.St} {H : Hp} {Q : δ → Hp → Prop} {r : V → V → Hp → Prop}
    (hh : tV G R' Wx (fun ρ W => (fa ρ W).bind fun a W1 => (fb ρ W1).bind fun b W2 => g ρ a b W2) σ H Q)
    (hr : ∀ ρ w v u a b, Good G w → ER G w ρ σ → RepV G w a v → RepV G w b u → Post G R' Wx σ w (g ρ a b w.W) Q → r v u w.H) :
    tE G Wx fa σ H fun v H1 => tE G Wx fb σ H1 fun u H2 => r v u H2 := by
  obtain ⟨w, ρ, rfl, gd, er, p⟩ := hh
  refine ⟨w, ρ, rfl, gd, er, (Post.bind (R := RepV G) p).mono fun v H1 ⟨w1, a, e1, l1, g1, r1, p1⟩ => ?_⟩
  subst e1
  refine ⟨w1, ρ, rfl, g1, er.mono l1, (Post.bind (R := RepV G) p1).mono fun u H2 ⟨w2, b, e2, l2, g2, r2, p2⟩ => ?_⟩
  subst e2
  exact hr ρ w2 v u a b g2 ((er.mono l1).mono l2) (RepV.mono l2 _ _ r1) r2 p2
theorem un1 {γ δ : Type} {R' : Wd → γ → δ → Prop} {fa : Sem Vl} {g : Rho → Vl → List O → Res γ} {σ : L2.St} {H : Hp} {Q : δ → Hp → Prop} {r : V → Hp → Prop}
    (hh : tV G R' Wx (fun ρ W => (fa ρ W).bind fun a W1 => g ρ a W1) σ H Q)
    (hr : ∀ ρ w v a, Good G w → ER G w ρ σ → RepV G w a v → Post G R' Wx σ w (g ρ a w.W) Q → r v w.H) : tE G Wx fa σ H fun v H1 => r v H1 := by
  obtain ⟨w, ρ, rfl, gd, er, p⟩ := hh
  refine ⟨w, ρ, rfl, gd, er, (Post.bind (R := RepV G) p).mono fun v H1 ⟨w1, a, e1, l1, g1, r1, p1⟩ => ?_⟩
  subst e1
  exact hr ρ w1 v a g1 (er.mono l1) r1 p1
theorem arg1 {γ δ : Type} {R' : Wd → γ → δ → Prop} {fa : Sem (List Vl)} {g : Rho → List Vl → List O → Res γ} {σ : L2.St} {H : Hp} {Q : δ → Hp → Prop} {r : List V → Hp → Prop}
    (hh : tV G R' Wx (fun ρ W => (fa ρ W).bind fun a W1 => g ρ a W1) σ H Q)
    (hr : ∀ ρ w vs ds, Good G w → ER G w ρ σ → RepVs G w ds vs → Post G R' Wx σ w (g ρ ds w.W) Q → r vs w.H) : tA G Wx fa σ H fun v H1 => r v H1 := by
  obtain ⟨w, ρ, rfl, gd, er, p⟩ := hh
  refine ⟨w, ρ, rfl, gd, er, (Post.bind (R := RepVs G) p).mono fun v H1 ⟨w1, a, e1, l1, g1, r1, p1⟩ => ?_⟩
  subst e1
  exact hr ρ w1 v a g1 (er.mono l1) r1 p1
variable {a b : Expr} {fa fb : Sem Vl} {pos : Pos}
theorem se_bin {op : Operator} {g : D → D → Option D} (ho : OpS G X (binaryOp op) g) (ha : SE G X Wx a fa) (hb : SE G X Wx b fb) : SE G X Wx (.BinOp a op b pos) (eBin g fa fb) := by
  obtain ⟨r, h1, h2⟩ := ho
  exact PE.imp (pe_op h1 ha hb) fun σ H Q hh => bin2 hh fun ρ w v u a b g1 _ r1 r2 p => by
    obtain ⟨x, y, z, c1, c2, e, wn⟩ := p.on2
    exact h2 w v u x y z Q g1 (r1.now g1 c1) (r2.now g1 c2) e wn
theorem se_cmp {op : CmpOp} {g : D → D → Option D} (ho : OpS G X (compareOp op) g) (ha : SE G X Wx a fa) (hb : SE G X Wx b fb) (hm : behindInMarks op b = false := by first | exact nomark _ (by decide) (by decide) | rfl) :
    SE G X Wx (.Compare a [op] [b] pos) (eBin g fa fb) := by
  obtain ⟨r, h1, h2⟩ := ho
  exact PE.imp (pe_cmpR h1 ha hb hm) fun σ H Q hh => bin2 hh fun ρ w v u a b g1 _ r1 r2 p => by
    obtain ⟨x, y, z, c1, c2, e, wn⟩ := p.on2
    exact h2 w v u x y z Q g1 (r1.now g1 c1) (r2.now g1 c2) e wn
theorem se_un {op : UnaryOp} {g : D → Option D} (ho : UnS G X (unaryOp op) g) (ha : SE G X Wx a fa) : SE G X Wx (.UnaryOp op a pos) (eUn g fa) := by
  obtain ⟨r, h1, h2⟩ := ho
  exact PE.imp (pe_un h1 ha) fun σ H Q hh => un1 hh fun ρ w v a g1 _ r1 p => by
    obtain ⟨x, z, c1, e, wn⟩ := p.on1
    exact h2 w v x z Q g1 (r1.now g1 c1) e wn
theorem se_callB {x : Str} {id : String} {g : List D → Option D} {e : Expr} {es : List Expr} {fs : Sem (List Vl)} {p : Pos} (ho : CallS G X (.builtin id) g) (hg : Gl X x) (hm : X.mg x = none) (hv : bootBuiltins x = some (.builtin id)) (ha : SA G X Wx (e :: es) fs)
    (hn : x ≠ "__name__" := by decide) (hdb : (x == ("__debug__" : Str)) = false := by decide) (he : starEach (e :: es) X.env = (false, eval e X.env) :: starEach es X.env := by rfl) (hpl : (backTo pos (starEach es X.env)).any (·.1) = false := by rfl) :
    SE G X Wx (.Call (.Name x p) (e :: es) [] pos) (eCall g fs) := by
  obtain ⟨r, h1, h2⟩ := ho
  exact PE.imp (pe_callB h1 hg hm hv ha hn hdb he hpl) fun σ H Q hh => arg1 hh fun ρ w v a g1 _ r1 p => by
    obtain ⟨xs, z, c1, e, wn⟩ := p.onL
    exact h2 w v xs z Q g1 (r1.now g1 c1) e wn
theorem se_callTy {x : Str} {T : String} {g : List D → Option D} {e : Expr} {es : List Expr} {fs : Sem (List Vl)} {p : Pos} (ho : CallS G X (.type T) g) (hg : Gl X x) (hm : X.mg x = none) (hv : bootBuiltins x = some (.type T)) (ha : SA G X Wx (e :: es) fs)
    (hn : x ≠ "__name__" := by decide) (hdb : (x == ("__debug__" : Str)) = false := by decide) (he : starEach (e :: es) X.env = (false, eval e X.env) :: starEach es X.env := by rfl) (hpl : (backTo pos (starEach es X.env)).any (·.1) = false := by rfl) :
    SE G X Wx (.Call (.Name x p) (e :: es) [] pos) (eCall g fs) := by
  obtain ⟨r, h1, h2⟩ := ho
  exact PE.imp (pe_callTy h1 hg hm hv ha hn hdb he hpl) fun σ H Q hh => arg1 hh fun ρ w v a g1 _ r1 p => by
    obtain ⟨xs, z, c1, e, wn⟩ := p.onL
    exact h2 w v xs z Q g1 (r1.now g1 c1) e wn
end
end VL
set_option Elab.async false
set_option linter.all false
set_option maxRecDepth 100000
set_option maxHeartbeats 4000000
namespace VL
open PySem PySem.Spec PyProof.Rows L2
/-! ### moves of a world -/
def nex : HO → Bool
  | .tbl _ => false
  | .ext _ => false
  | _ => true
theorem prv_nex {o : HO} (h : prv o = true) : nex o = true := by cases o <;> first | rfl | cases h
theorem nex_tbl {o : HO} (h : nex o = true) (ps : Array Value) : o ≠ .tbl ps := fun e => by subst e; cases h
theorem tabs_but {T : List (Addr × Str)} {H H' : Hp} {a : Addr} {u : HO} (t : LamX.Tabs T H) (hu : H a = some u) (hn : nex u = true) (k : ∀ b o, H b = some o → b ≠ a → H' b = some o) : LamX.Tabs T H' := fun p hp => by
  obtain ⟨ps, h1, h2, h3⟩ := t p hp
  refine ⟨ps, k _ _ h1 (fun e => ?_), h2, fun pos cv hc => ?_⟩
  · rw [e, hu] at h1; cases h1; cases hn
  · obtain ⟨c, e1, e2⟩ := h3 pos cv hc
    refine ⟨c, e1, k _ _ e2 fun e => ?_⟩
    rw [e, hu] at e2; cases e2; cases hn
section
variable {G : Gm} {w : Wd} {p : Addr} {o : HO}
theorem Good.freshS (g : Good G w) (hp : w.H p = none) : w.Hs p = none := by
  cases e : w.Hs p with
  | none => rfl
  | some u =>
    rcases g.sh _ _ e with h | ⟨_, h, _⟩ <;> (rw [hp] at h; cases h)
theorem Good.freshM (g : Good G w) (hp : w.H p = none) (i : Nat) (hi : i < w.W.length) : w.μ i ≠ p := fun e => g.th i hi (by rw [e]; exact .inl hp)
/-- a new shared object -/
def Wd.new (w : Wd) (p : Addr) (o : HO) : Wd := { w with H := upd w.H p o, Hs := upd w.Hs p o }
theorem le_new (g : Good G w) (hp : w.H p = none) : Le w (w.new p o) :=
  ⟨fun a u h => by show upd _ _ _ _ = _; rw [upd_ne (ne_of_none h (g.freshS hp))]; exact h, Nat.le_refl _, fun _ _ => rfl, fun a u h _ _ => by show upd _ _ _ _ = _; rw [upd_ne (ne_of_none h hp)]; exact h,
    fun a u h _ hs _ => by show upd _ _ _ _ = _; rw [upd_ne (ne_of_none h hp)]; exact hs, fun i h1 h2 => absurd h2 (Nat.not_lt.mpr h1), fun a h => by
      have h' : Loose (upd w.H p o a) := h
      by_cases ha : a = p
      · subst ha; exact .inl hp
      · rw [upd_ne ha] at h'; exact h'⟩
theorem RepO.monoS {w w' : Wd} {a : Addr} {x : O} (l : ∀ a o, w.Hs a = some o → w'.Hs a = some o) (h : RepO G w a x) (e : w'.H a = w.H a) : RepO G w' a x := by
  cases x with
  | lst ds => obtain ⟨vs, h1, h2⟩ := h; exact ⟨vs, by rw [e]; exact h1, Reps.monoS l _ _ h2⟩
  | dic t kvs => cases t <;> (obtain ⟨kv, h1, h2⟩ := h; first | exact ⟨kv, by rw [e]; exact h1, RepK.monoS l _ _ h2⟩ | exact ⟨kv, by rw [e]; exact h1, RepT.monoS l _ _ h2⟩)
  | lck t kvs => cases t <;> (obtain ⟨ob, kv, h1, h2⟩ := h; first | exact ⟨ob, kv, by rw [e]; exact h1, RepK.monoS l _ _ h2⟩ | exact ⟨ob, kv, by rw [e]; exact h1, RepT.monoS l _ _ h2⟩)
  | ins c fs => obtain ⟨dx, vs, h1, h2, h3⟩ := h; exact ⟨dx, vs, by rw [e]; exact h1, Reps.monoS l _ _ h2, h3⟩
  | dead => trivial
theorem RepO.mono {w w' : Wd} {a : Addr} {x : O} (l : Le w w') (h : RepO G w a x) (e : w'.H a = w.H a) : RepO G w' a x := RepO.monoS l.hs h e
theorem good_new (g : Good G w) (hp : w.H p = none) (ho : ∀ ps, o ≠ .tbl ps) : Good G (w.new p o) := by
  have l := le_new (o := o) g hp
  refine ⟨fun a u h => ?_, fun i x e al => ?_, g.inj, g.tb.ext fun b u h => by show upd _ _ _ _ = _; rw [upd_ne (ne_of_none h hp)]; exact h, fun a ps h => ?_, fun i hi => ?_⟩
  · have h' : upd w.Hs p o a = some u := h
    by_cases ha : a = p
    · subst ha; rw [upd_same] at h'; left; show upd _ _ _ _ = _; rw [upd_same]; exact h'
    · rw [upd_ne ha] at h'
      rcases g.sh a u h' with z | ⟨od, z, d⟩
      · left; show upd _ _ _ _ = _; rw [upd_ne ha]; exact z
      · right; exact ⟨od, by show upd _ _ _ _ = _; rw [upd_ne ha]; exact z, d⟩
  · obtain ⟨h1, h2⟩ := g.ob i x e al
    have hi : i < w.W.length := (List.getElem?_eq_some_iff.mp e).1
    have ne : w.μ i ≠ p := g.freshM hp i hi
    exact ⟨by show upd w.Hs p o (w.μ i) = _; rw [upd_ne ne]; exact h1, h2.mono l (by show upd w.H p o (w.μ i) = _; rw [upd_ne ne]; rfl)⟩
  · have h' : upd w.Hs p o a = some (.tbl ps) := h
    by_cases ha : a = p
    · subst ha; rw [upd_same] at h'; exact ho ps (Option.some.inj h')
    · rw [upd_ne ha] at h'; exact g.nt a ps h'
  · have hi' : i < w.W.length := hi
    show ¬ Loose (upd w.H p o (w.μ i))
    rw [upd_ne (g.freshM hp i hi')]; exact g.th i hi'
/-- a mutable object is changed -/
def Wd.put (w : Wd) (i : Nat) (o : HO) (x : O) : Wd := { w with H := upd w.H (w.μ i) o, W := w.W.set i x }
theorem le_put {i : Nat} {x : O} (hi : i < w.W.length) (ho : ∀ ps, o ≠ .tbl ps) : Le w (w.put i o x) :=
  ⟨fun _ _ h => h, by show _ ≤ (w.W.set i x).length; rw [List.length_set]; exact Nat.le_refl _, fun _ _ => rfl, fun a u h hn _ => by show upd _ _ _ _ = _; rw [upd_ne (Ne.symm (hn i hi))]; exact h,
    fun _ _ _ _ h _ => h, fun j h1 h2 => absurd (show j < w.W.length by have h2' : j < (w.W.set i x).length := h2; rw [List.length_set] at h2'; exact h2') (Nat.not_lt.mpr h1), fun a h => by
      have h' : Loose (upd w.H (w.μ i) o a) := h
      by_cases ha : a = w.μ i
      · subst ha; rw [upd_same] at h'; exact (loose_some h' ho).elim
      · rw [upd_ne ha] at h'; exact h'⟩
theorem good_put {i : Nat} {x x0 : O} {u : HO} (g : Good G w) (e0 : w.W[i]? = some x0) (al : x0.alive = true) (hu : w.H (w.μ i) = some u) (hn : nex u = true) (ho : ∀ ps, o ≠ .tbl ps) (hr : RepO G (w.put i o x) (w.μ i) x) : Good G (w.put i o x) := by
  have hi : i < w.W.length := (List.getElem?_eq_some_iff.mp e0).1
  have l : Le w (w.put i o x) := le_put hi ho
  have hs : w.Hs (w.μ i) = none := (g.ob i x0 e0 al).1
  have wk : ∀ j y, (w.W.set i x)[j]? = some y → j ≠ i → w.W[j]? = some y := fun j y e hj => by rw [List.getElem?_set_ne (Ne.symm hj)] at e; exact e
  refine ⟨fun a v h => ?_, fun j y e aj => ?_, fun j k y z e1 e2 a1 a2 em => ?_, tabs_but g.tb hu hn fun b v h hb => by show upd _ _ _ _ = _; rw [upd_ne hb]; exact h, g.nt, fun j hj => ?_⟩
  · have ne : a ≠ w.μ i := fun z => by rw [z] at h; have h' : w.Hs (w.μ i) = some v := h; rw [hs] at h'; cases h'
    rcases g.sh a v h with z | ⟨od, z, d⟩
    · left; show upd _ _ _ _ = _; rw [upd_ne ne]; exact z
    · right; exact ⟨od, by show upd _ _ _ _ = _; rw [upd_ne ne]; exact z, d⟩
  · by_cases hj : j = i
    · subst hj
      have e' : (w.W.set j x)[j]? = some y := e
      rw [List.getElem?_set_self hi] at e'; cases e'
      exact ⟨hs, hr⟩
    · have e' := wk j y e hj
      obtain ⟨h1, h2⟩ := g.ob j y e' aj
      have ne : w.μ j ≠ w.μ i := fun z => hj (g.inj j i y x0 e' e0 aj al z)
      exact ⟨h1, h2.mono l (by show upd w.H (w.μ i) o (w.μ j) = _; rw [upd_ne ne]; rfl)⟩
  · by_cases hj : j = i
    · by_cases hk : k = i
      · rw [hj, hk]
      · subst hj
        exact g.inj j k x0 z e0 (wk k z e2 hk) al a2 em
    · by_cases hk : k = i
      · subst hk
        exact g.inj j k y x0 (wk j y e1 hj) e0 a1 al em
      · exact g.inj j k y z (wk j y e1 hj) (wk k z e2 hk) a1 a2 em
  · have hj' : j < (w.W.set i x).length := hj
    rw [List.length_set] at hj'
    show ¬ Loose (upd w.H (w.μ i) o (w.μ j))
    by_cases hq : w.μ j = w.μ i
    · rw [hq, upd_same]; exact fun z => loose_some z ho
    · rw [upd_ne hq]; exact g.th j hj'
/-- a new mutable object -/
def Wd.push (w : Wd) (H' : Hp) (p : Addr) (x : O) : Wd := { w with H := H', μ := fun i => if i = w.W.length then p else w.μ i, W := w.W ++ [x] }
theorem push_mu {H' : Hp} {x : O} {i : Nat} (hi : i < w.W.length) : (w.push H' p x).μ i = w.μ i := if_neg (Nat.ne_of_lt hi)
theorem push_mu_new {H' : Hp} {x : O} : (w.push H' p x).μ w.W.length = p := if_pos rfl
theorem le_push {H' : Hp} {x : O} (hp : w.H p = none) (k : ∀ a u, w.H a = some u → H' a = some u) : Le w (w.push H' p x) := by
  refine ⟨fun _ _ h => h, by show _ ≤ (w.W ++ [x]).length; simp, fun i hi => push_mu hi, fun a u h _ _ => k a u h, fun a u h _ hs _ => hs, fun i h1 h2 => ?_, fun a h => ?_⟩
  · have h2' : i < (w.W ++ [x]).length := h2
    have e : i = w.W.length := by rw [List.length_append, List.length_singleton] at h2'; omega
    subst e
    rw [push_mu_new]; exact .inl hp
  · cases e : w.H a with
    | none => exact .inl rfl
    | some u => have := k a u e; have h' : Loose (H' a) := h; rw [this] at h'; exact h'
theorem good_push {H' : Hp} {x : O} (g : Good G w) (hp : w.H p = none) (k : ∀ a u, w.H a = some u → H' a = some u) (hH : ¬ Loose (H' p)) (hr : RepO G (w.push H' p x) p x) : Good G (w.push H' p x) := by
  have l : Le w (w.push H' p x) := le_push hp k
  have cs : ∀ i y, (w.W ++ [x])[i]? = some y → (i < w.W.length ∧ w.W[i]? = some y) ∨ (i = w.W.length ∧ y = x) := fun i y e => by
    have hi := (List.getElem?_eq_some_iff.mp e).1
    rw [List.length_append, List.length_singleton] at hi
    by_cases h : i < w.W.length
    · rw [List.getElem?_append_left h] at e; exact .inl ⟨h, e⟩
    · have e1 : i = w.W.length := by omega
      subst e1
      rw [List.getElem?_append_right (Nat.le_refl _)] at e
      simp at e
      exact .inr ⟨rfl, e.symm⟩
  refine ⟨fun a u h => ?_, fun i y e al => ?_, fun i j y z e1 e2 a1 a2 em => ?_, g.tb.ext k, g.nt, fun i hi => ?_⟩
  · rcases g.sh a u h with z | ⟨od, z, d⟩
    · exact .inl (k _ _ z)
    · exact .inr ⟨od, k _ _ z, d⟩
  · rcases cs i y e with ⟨hi, e'⟩ | ⟨hi, e'⟩
    · obtain ⟨h1, h2⟩ := g.ob i y e' al
      rw [push_mu hi]
      refine ⟨h1, h2.mono l ?_⟩
      cases q : w.H (w.μ i) with
      | none => exact absurd (.inl q) (g.th i hi)
      | some u => exact k _ _ q
    · subst hi; subst e'
      rw [push_mu_new]
      exact ⟨g.freshS hp, hr⟩
  · rcases cs i y e1 with ⟨hi, e1'⟩ | ⟨hi, _⟩ <;> rcases cs j z e2 with ⟨hj, e2'⟩ | ⟨hj, _⟩
    · rw [push_mu hi, push_mu hj] at em; exact g.inj i j y z e1' e2' a1 a2 em
    · subst hj; rw [push_mu hi, push_mu_new] at em; exact absurd em (g.freshM hp i hi)
    · subst hi; rw [push_mu hj, push_mu_new] at em; exact absurd em.symm (g.freshM hp j hj)
    · rw [hi, hj]
  · have hi' : i < (w.W ++ [x]).length := hi
    by_cases h : i < w.W.length
    · rw [push_mu h]
      cases q : w.H (w.μ i) with
      | none => exact absurd (.inl q) (g.th i h)
      | some u => show ¬ Loose (H' _); rw [k _ _ q, ← q]; exact g.th i h
    · have e1 : i = w.W.length := by rw [List.length_append, List.length_singleton] at hi'; omega
      subst e1
      rw [push_mu_new]; exact hH

end
end VL
set_option Elab.async false
set_option linter.all false
set_option maxRecDepth 100000
set_option maxHeartbeats 4000000
namespace VL
open PySem PySem.Spec PyProof.Rows L2
section
variable {G : Gm} {X : Cx} {k : Nat} {Wx : WX}
theorem VC.u64 (vc : VC G X k Wx) : X.A.units + 64 < cLine := vc.hr.units
theorem VC.eK (vc : VC G X k Wx) : G.K = X.K := vc.K.symm
theorem want_new {w : Wd} {z : D} {o : HO} {Q : VK} (h : Want G w z Q) (g : Good G w) (ho : ∀ ps, o ≠ .tbl ps) {a : Addr} (ha : w.H a = none) (hr : Rep G (w.new a o) z (.ref a)) : Q (.ref a) (upd w.H a o) :=
  h (w.new a o) (.ref a) (le_new g ha) (good_new g ha ho) rfl hr
/-! ### numbers -/
def intOp (f : Int → Int → D) (a b : D) : Option D := match a, b with
  | .int i, .int j => some (f i j)
  | _, _ => none
def intOpC (C : Int → Int → Prop) [∀ i j, Decidable (C i j)] (f : Int → Int → D) (a b : D) : Option D := match a, b with
  | .int i, .int j => if C i j then some (f i j) else none
  | _, _ => none
@[simp] theorem intOp_int (f : Int → Int → D) (i j : Int) : intOp f (.int i) (.int j) = some (f i j) := rfl
theorem op_int {f : Value → Value → PySem.Sem Value} {g : Int → Int → V} {gD : Int → Int → D} (h : OpR X f (rI0 g)) (e : ∀ w i j, Rep G w (gD i j) (g i j)) : OpS G X f (intOp gD) :=
  ⟨_, h, fun w v u a b z Q gd r1 r2 p wn => by
    unfold intOp at p
    split at p
    · rename_i i j
      cases p
      exact ⟨i, j, r1, r2, wn.here gd (e w i j)⟩
    · cases p⟩
theorem op_intC {f : Value → Value → PySem.Sem Value} {C C' : Int → Int → Prop} [∀ i j, Decidable (C' i j)] {g : Int → Int → V} {gD : Int → Int → D} (h : OpR X f (rI C g)) (hc : ∀ i j, C' i j → C i j) (e : ∀ w i j, Rep G w (gD i j) (g i j)) : OpS G X f (intOpC C' gD) :=
  ⟨_, h, fun w v u a b z Q gd r1 r2 p wn => by
    unfold intOpC at p
    split at p
    · rename_i i j
      split at p
      · rename_i c
        cases p
        exact ⟨i, j, r1, r2, hc i j c, wn.here gd (e w i j)⟩
      · cases p
    · cases p⟩
def subS := intOp fun i j => .int (i - j)
theorem os_sub : OpS G X (binaryOp .Sub) subS := op_int op_sub fun _ _ _ => rfl
def CMulD (i j : Int) : Prop := i.natAbs < 2 ^ 64 ∨ j.natAbs < 2 ^ 64
instance (i j : Int) : Decidable (CMulD i j) := by unfold CMulD; infer_instance
def CDivD (i j : Int) : Prop := j ≠ 0 ∧ j.natAbs < 1073741824
instance (i j : Int) : Decidable (CDivD i j) := by unfold CDivD; infer_instance
def CPowD (i j : Int) : Prop := 0 ≤ j ∧ j ≤ 1000000 ∧ i.natAbs < 2 ^ 64
instance (i j : Int) : Decidable (CPowD i j) := by unfold CPowD; infer_instance
def fdivS := intOpC CDivD fun i j => .int (i.fdiv j)
def modS := intOpC (fun _ j => j ≠ 0) fun i j => .int (i.fmod j)
def powS := intOpC CPowD fun i j => .int (i ^ j.toNat)
theorem os_fdiv : OpS G X (binaryOp .FloorDiv) fdivS := op_intC op_fdivN (fun _ _ h => h) fun _ _ _ => rfl
theorem os_mod : OpS G X (binaryOp .Mod) modS := op_intC op_modN (fun _ _ h => h) fun _ _ _ => rfl
theorem os_pow : OpS G X (binaryOp .Pow) powS := op_intC op_pow (fun _ _ h => h) fun _ _ _ => rfl
theorem CMulD.ok {i j : Int} (h : CMulD i j) : CMul i j := by
  unfold CMulD at h; unfold CMul
  rcases h with h | h
  · left; omega
  · right; omega
/-! ### + -/
def addS (a b : D) : Option D := match a, b with
  | .int i, .int j => some (.int (i + j))
  | .str x, .str y => if x.length + y.length ≤ sizeLine then some (.str (x ++ y)) else none
  | .tup xs, .tup ys => if xs.length + ys.length ≤ sizeLine then some (.tup (xs ++ ys)) else none
  | .lst xs, .lst ys => if xs.length + ys.length ≤ sizeLine then some (.lst (xs ++ ys)) else none
  | _, _ => none
theorem os_add : OpS G X (binaryOp .Add) addS := by
  refine ⟨_, (op_add.or op_add_str).or (op_catA.or op_cat), fun w v u a b z Q gd r1 r2 p wn => ?_⟩
  unfold addS at p
  split at p
  · rename_i i j
    cases p
    exact .inl (.inl ⟨i, j, r1, r2, wn.here (v := V.int _) gd rfl⟩)
  · rename_i x y
    split at p
    · rename_i h
      cases p
      exact .inl (.inr ⟨x, y, r1, r2, h, wn.here (v := V.str _) gd rfl⟩)
    · cases p
  · rename_i xs ys
    split at p
    · rename_i h
      cases p
      obtain ⟨a1, vs, rfl, h1, q1⟩ := r1
      obtain ⟨a2, us, rfl, h2, q2⟩ := r2
      have l1 := q1.length
      have l2 := q2.length
      refine .inr (.inl ⟨a1, a2, vs, us, rfl, rfl, .of (gd.shN h1 rfl), .of (gd.shN h2 rfl), by omega, fun e => ?_, fun e1 e2 => ?_, fun e1 e2 a ha => ?_⟩)
      · have : xs = [] := by rw [e] at l1; exact List.length_eq_zero_iff.mp l1.symm
        subst this
        exact wn.here (v := V.ref a2) gd ⟨a2, us, rfl, h2, q2⟩
      · have : ys = [] := by rw [e2] at l2; exact List.length_eq_zero_iff.mp l2.symm
        subst this
        rw [List.append_nil] at wn
        exact wn.here (v := V.ref a1) gd ⟨a1, vs, rfl, h1, q1⟩
      · exact want_new wn gd (fun _ z => by cases z) ha ⟨a, _, rfl, upd_same, ((Reps.mono (le_new gd ha) _ _ q1).append (Reps.mono (le_new gd ha) _ _ q2))⟩
    · cases p
  · rename_i xs ys
    split at p
    · rename_i h
      cases p
      obtain ⟨a1, vs, rfl, h1, q1⟩ := r1
      obtain ⟨a2, us, rfl, h2, q2⟩ := r2
      have l1 := q1.length
      have l2 := q2.length
      exact .inr (.inr ⟨a1, a2, vs, us, rfl, rfl, h1, h2, by omega, fun a ha =>
        want_new wn gd (fun _ z => by cases z) ha ⟨a, _, rfl, upd_same, ((Reps.mono (le_new gd ha) _ _ q1).append (Reps.mono (le_new gd ha) _ _ q2))⟩⟩)
    · cases p
  · cases p
/-! ### comparisons of numbers -/
def cmpS (fi : Int → Int → Bool) (a b : D) : Option D := match a, b with
  | .int i, .int j => some (.bl (fi i j))
  | _, _ => none
def ltS := cmpS fun i j => decide (i < j)
def leS := cmpS fun i j => decide (i ≤ j)
def gtS := cmpS fun i j => decide (j < i)
def geS := cmpS fun i j => decide (j ≤ i)
@[simp] theorem cmpS_int (f : Int → Int → Bool) (i j : Int) : cmpS f (.int i) (.int j) = some (.bl (f i j)) := rfl
theorem os_cmp {f : Value → Value → PySem.Sem Value} {g : Int → Int → Bool} (h : OpR X f (rI0 fun i j => .bl (g i j))) : OpS G X f (cmpS g) :=
  ⟨_, h, fun w v u a b z Q gd r1 r2 p wn => by
    unfold cmpS at p
    split at p
    · rename_i i j
      cases p
      exact ⟨i, j, r1, r2, wn.here (v := V.bl _) gd rfl⟩
    · cases p⟩
theorem os_lt : OpS G X (compareOp .Lt) ltS := os_cmp op_lt
theorem os_le : OpS G X (compareOp .LtE) leS := os_cmp op_le
theorem os_gt : OpS G X (compareOp .Gt) gtS := os_cmp op_gt
theorem os_ge : OpS G X (compareOp .GtE) geS := os_cmp op_ge
/-! ### data -/
mutual
def toPy : D → Option PyData
  | .non => some .none
  | .bl b => some (.bool b)
  | .int i => some (.int i)
  | .str x => some (.str x)
  | .lst xs => (toPyL xs).map .list
  | .tup xs => (toPyL xs).map .tuple
  | _ => none
def toPyL : List D → Option (List PyData)
  | [] => some []
  | d :: ds => match toPy d, toPyL ds with
    | some p, some ps => some (p :: ps)
    | _, _ => none
end
mutual
theorem dp_of {K : PySem.W.Frag} {w : Wd} (gd : Good G w) : ∀ (d : D) (v : V) (p : PyData), Rep G w d v → toPy d = some p → Dp K w.H v p
  | .non, v, p, r, e => by cases e; rw [show v = _ from r]; exact .non
  | .bl b, v, p, r, e => by cases e; rw [show v = _ from r]; exact .bl b
  | .int i, v, p, r, e => by cases e; rw [show v = _ from r]; exact .int i
  | .str x, v, p, r, e => by cases e; rw [show v = _ from r]; exact .str x
  | .lst xs, v, p, r, e => by
    obtain ⟨ps, e1, e2⟩ := Option.map_eq_some_iff.mp e
    subst e2
    obtain ⟨a, vs, rfl, h, q⟩ := r
    exact .lst (.of (gd.shN h rfl)) (dpL_of gd xs vs ps q e1)
  | .tup xs, v, p, r, e => by
    obtain ⟨ps, e1, e2⟩ := Option.map_eq_some_iff.mp e
    subst e2
    obtain ⟨a, vs, rfl, h, q⟩ := r
    exact .tup (.of (gd.shN h rfl)) (dpL_of gd xs vs ps q e1)
  | .dic t kvs, v, p, r, e => by cases e
  | .ins c fs, v, p, r, e => by cases e
  | .fn f, v, p, r, e => by cases e
  | .scr f, v, p, r, e => by cases e
  | .ty f, v, p, r, e => by cases e
theorem dpL_of {K : PySem.W.Frag} {w : Wd} (gd : Good G w) : ∀ (ds : List D) (vs : List V) (ps : List PyData), Reps G w ds vs → toPyL ds = some ps → DpAll K w.H vs ps
  | [], vs, ps, r, e => by cases e; rw [show vs = _ from r]; exact .nil
  | d :: ds, vs, ps, r, e => by
    obtain ⟨v, r', rfl, r1, r2⟩ := r
    unfold toPyL at e
    split at e
    · rename_i p ps' e1 e2
      cases e
      exact .cons (dp_of gd d v p r1 e1) (dpL_of gd ds r' ps' r2 e2)
    · cases e
end
theorem dp_at {K : PySem.W.Frag} {w : Wd} (gd : Good G w) {d : D} {v : V} {p : PyData} (r : RepC G w d v) (e : toPy d = some p) : Dp K w.H v p := by
  cases d with
  | lst ds =>
    obtain ⟨a, vs, rfl, h, q⟩ := r
    obtain ⟨ps, e1, e2⟩ := Option.map_eq_some_iff.mp e
    subst e2
    exact .lst (.of h) (dpL_of gd ds vs ps q e1)
  | dic t kvs => cases e
  | ins c fs => cases e
  | _ => exact dp_of gd _ _ _ r e
mutual
theorem plain_toPy : ∀ (d : D) (p : PyData), toPy d = some p → p.plain = true
  | .non, _, e => by cases e; rfl
  | .bl _, _, e => by cases e; rfl
  | .int _, _, e => by cases e; rfl
  | .str _, _, e => by cases e; rfl
  | .lst xs, p, e => by
    obtain ⟨ps, e1, e2⟩ := Option.map_eq_some_iff.mp e
    subst e2
    exact plain_toPyL xs ps e1
  | .tup xs, p, e => by
    obtain ⟨ps, e1, e2⟩ := Option.map_eq_some_iff.mp e
    subst e2
    exact plain_toPyL xs ps e1
  | .dic _ _, _, e => by cases e
  | .ins _ _, _, e => by cases e
  | .fn _, _, e => by cases e
  | .scr _, _, e => by cases e
  | .ty _, _, e => by cases e
theorem plain_toPyL : ∀ (ds : List D) (ps : List PyData), toPyL ds = some ps → PyData.plainAll ps = true
  | [], _, e => by cases e; rfl
  | d :: ds, ps, e => by
    unfold toPyL at e
    split at e
    · rename_i p ps' e1 e2
      cases e
      rw [PyData.plainAll, plain_toPy d p e1, plain_toPyL ds ps' e2]; rfl
    · cases e
end
def eqS (a b : D) : Option D := match toPy a, toPy b with
  | some p, some q => if min p.depth q.depth ≤ 60 then some (.bl (PyData.eqv p q)) else none
  | _, _ => none
def neS (a b : D) : Option D := match toPy a, toPy b with
  | some p, some q => if min p.depth q.depth ≤ 60 then some (.bl (!PyData.eqv p q)) else none
  | _, _ => none
theorem op_eqP (hu : X.A.units + 64 < cLine) : OpR X (compareOp .Eq) (fun x y H Q => ∃ d e, Dp X.K H x d ∧ Dp X.K H y e ∧ d.plain = true ∧ e.plain = true ∧ min d.depth e.depth ≤ 60 ∧ Q (.bl (PyData.eqv d e)) H) := by
  intro pins s σ H x y v u Q I rx ry h
  obtain ⟨d, e, hd, he, sd, se, dp, q⟩ := h
  obtain ⟨as, r1⟩ := Dp.reads I d x v hd rx
  obtain ⟨bs, r2⟩ := Dp.reads I e y u he ry
  exact SeqAt.eq_plain r1 r2 sd se (by omega) ⟨.bl _, H, I, rfl, q⟩
theorem op_neP (hu : X.A.units + 64 < cLine) : OpR X (compareOp .NotEq) (fun x y H Q => ∃ d e, Dp X.K H x d ∧ Dp X.K H y e ∧ d.plain = true ∧ e.plain = true ∧ min d.depth e.depth ≤ 60 ∧ Q (.bl (!PyData.eqv d e)) H) := by
  intro pins s σ H x y v u Q I rx ry h
  obtain ⟨d, e, hd, he, sd, se, dp, q⟩ := h
  obtain ⟨as, r1⟩ := Dp.reads I d x v hd rx
  obtain ⟨bs, r2⟩ := Dp.reads I e y u he ry
  exact SeqAt.ne_plain r1 r2 sd se (by omega) ⟨.bl _, H, I, rfl, q⟩
theorem os_eq (vc : VC G X k Wx) : OpS G X (compareOp .Eq) eqS := ⟨_, op_eqP vc.u64, fun w v u a b z Q gd r1 r2 p wn => by
    unfold eqS at p
    split at p
    · rename_i d e e1 e2
      split at p
      · rename_i h
        cases p
        exact ⟨d, e, dp_at gd r1 e1, dp_at gd r2 e2, plain_toPy _ _ e1, plain_toPy _ _ e2, h, wn.here (v := V.bl _) gd rfl⟩
      · cases p
    · cases p⟩
theorem os_ne (vc : VC G X k Wx) : OpS G X (compareOp .NotEq) neS := ⟨_, op_neP vc.u64, fun w v u a b z Q gd r1 r2 p wn => by
    unfold neS at p
    split at p
    · rename_i d e e1 e2
      split at p
      · rename_i h
        cases p
        exact ⟨d, e, dp_at gd r1 e1, dp_at gd r2 e2, plain_toPy _ _ e1, plain_toPy _ _ e2, h, wn.here (v := V.bl _) gd rfl⟩
      · cases p
    · cases p⟩
/-! ### keys -/
def dgetK (kvs : List (D × D)) (k : Key) : Option D := (kvs.find? fun p => decide (toKey p.1 = some k)).map (·.2)
def dgetT (kvs : List (D × D)) (k : List Key) : Option D := (kvs.find? fun p => decide (toKeys p.1 = some k)).map (·.2)
/-- what a dict holds at a key: none, where the key is of another kind -/
def dget (t : Bool) (kvs : List (D × D)) (k : D) : Option (Option D) := match t with
  | true => (toKeys k).map (dgetT kvs)
  | false => (toKey k).map (dgetK kvs)
theorem toKey_rep {w : Wd} {d : D} {v : V} {k : Key} (r : RepC G w d v) (e : toKey d = some k) : v = kV k := by
  cases d <;> first | cases e | skip
  · exact r
  · exact r
theorem toKey_rep' {w : Wd} {d : D} {v : V} {k : Key} (r : Rep G w d v) (e : toKey d = some k) : v = kV k := by
  cases d <;> first | cases e | skip
  · exact r
  · exact r
theorem toKeyL_rep {w : Wd} : ∀ {ds : List D} {vs : List V} {ks : List Key}, Reps G w ds vs → toKeyL ds = some ks → vs = ks.map kV
  | [], vs, ks, r, e => by cases e; exact r
  | d :: ds, vs, ks, r, e => by
    obtain ⟨v, r', rfl, r1, r2⟩ := r
    unfold toKeyL at e
    split at e
    · rename_i k ks' e1 e2
      cases e
      rw [toKey_rep' r1 e1, toKeyL_rep r2 e2]; rfl
    · cases e
theorem toKeys_rep {w : Wd} {d : D} {v : V} {ks : List Key} (gd : Good G w) (r : RepC G w d v) (e : toKeys d = some ks) : ∃ b, v = .ref b ∧ w.H b = some (.tup (ks.map kV)) ∧ w.Hs b = some (.tup (ks.map kV)) := by
  cases d <;> first | cases e | skip
  obtain ⟨a, vs, e1, h, q⟩ := r
  rw [toKeyL_rep q e] at h
  exact ⟨a, e1, gd.shN h rfl, h⟩
theorem repK_get {w : Wd} {k : Key} : ∀ {kvs : List (D × D)} {kv : List (Key × V)}, RepK G w kvs kv → match dgetK kvs k with
    | some d => ∃ v, valV kv k = some v ∧ Rep G w d v
    | none => valV kv k = none
  | [], kv, r => by rw [show kv = _ from r]; rfl
  | (k', d) :: ds, kv, r => by
    obtain ⟨k2, v, r', rfl, e, r1, r2⟩ := r
    unfold dgetK
    rw [List.find?_cons]
    by_cases h : k2 = k
    · subst h
      simp [e]
      exact ⟨v, valV_pos (p := (k2, v)) rfl, r1⟩
    · have := repK_get (k := k) r2
      unfold dgetK at this
      have e2 : decide (toKey k' = some k) = false := decide_eq_false (by rw [e]; exact fun z => h (Option.some.inj z))
      simp only [e2]
      rw [valV_neg (p := (k2, v)) h]
      exact this
theorem repT_get {w : Wd} {k : List Key} : ∀ {kvs : List (D × D)} {kv : List (List Key × V)}, RepT G w kvs kv → match dgetT kvs k with
    | some d => ∃ v, valV kv k = some v ∧ Rep G w d v
    | none => valV kv k = none
  | [], kv, r => by rw [show kv = _ from r]; rfl
  | (k', d) :: ds, kv, r => by
    obtain ⟨k2, v, r', rfl, e, r1, r2⟩ := r
    unfold dgetT
    rw [List.find?_cons]
    by_cases h : k2 = k
    · subst h
      simp [e]
      exact ⟨v, valV_pos (p := (k2, v)) rfl, r1⟩
    · have := repT_get (k := k) r2
      unfold dgetT at this
      have e2 : decide (toKeys k' = some k) = false := decide_eq_false (by rw [e]; exact fun z => h (Option.some.inj z))
      simp only [e2]
      rw [valV_neg (p := (k2, v)) h]
      exact this
def DGetR (G : Gm) (w : Wd) (a : Addr) (u : V) : Option D → Prop
  | some x => ∃ y, DGet w.H a u (some y) ∧ Rep G w x y
  | none => DGet w.H a u none
/-- reading a dict -/
theorem dget_at {w : Wd} {kd : D} {v u : V} {t : Bool} {kvs : List (D × D)} {o : Option D} (gd : Good G w) (r : RepC G w (.dic t kvs) v) (rk : RepC G w kd u) (e : dget t kvs kd = some o) :
    ∃ a, v = .ref a ∧ DGetR G w a u o := by
  obtain ⟨a, rfl, q⟩ := r
  refine ⟨a, rfl, ?_⟩
  cases t with
  | false =>
    obtain ⟨kv, h1, h2⟩ := q
    obtain ⟨kk, e1, e2⟩ := Option.map_eq_some_iff.mp e
    subst e2
    have z := repK_get (k := kk) h2
    have eu := toKey_rep rk e1
    split at z
    · rename_i x ex
      rw [ex]
      obtain ⟨y, z1, z2⟩ := z
      exact ⟨y, .inl ⟨kv, kk, h1, eu, z1.symm⟩, z2⟩
    · rename_i ex
      rw [ex]
      exact .inl ⟨kv, kk, h1, eu, z.symm⟩
  | true =>
    obtain ⟨kv, h1, h2⟩ := q
    obtain ⟨kk, e1, e2⟩ := Option.map_eq_some_iff.mp e
    subst e2
    have z := repT_get (k := kk) h2
    obtain ⟨b, eu, eb, _⟩ := toKeys_rep gd rk e1
    split at z
    · rename_i x ex
      rw [ex]
      obtain ⟨y, z1, z2⟩ := z
      exact ⟨y, .inr ⟨kv, kk, b, h1, eu, eb, z1.symm⟩, z2⟩
    · rename_i ex
      rw [ex]
      exact .inr ⟨kv, kk, b, h1, eu, eb, z.symm⟩
/-! ### in -/
def inD (neg : Bool) (a : D) (ds : List D) : Option D := match toPy a, toPyL ds with
  | some p, some ps => if p.depth ≤ 60 then some (.bl (xor neg (ps.any fun y => PyData.eqv y p))) else none
  | _, _ => none
def inS (neg : Bool) (a b : D) : Option D := match b with
  | .str z => match a with
    | .str x => match x.cps.toList with
      | [c] => some (.bl (xor neg (decide (c ∈ z.cps.toList))))
      | _ => none
    | _ => none
  | .lst ds => inD neg a ds
  | .tup ds => inD neg a ds
  | .dic t kvs => (dget t kvs a).map fun o => .bl (xor neg o.isSome)
  | _ => none
def rInP (K : PySem.W.Frag) (neg : Bool) : R2 := fun x y H Q => ∃ d ds, Dp K H x d ∧ (Dp K H y (.list ds) ∨ Dp K H y (.tuple ds)) ∧ d.plain = true ∧ PyData.plainAll ds = true ∧ d.depth ≤ 60 ∧ Q (.bl (xor neg (ds.any fun z => PyData.eqv z d))) H
theorem op_inP (hu : X.A.units + 64 < cLine) : OpR X (compareOp .In) (rInP X.K false) := by
  intro pins s σ H x y v u Q I rx ry h
  obtain ⟨d, ds, hd, he, sd, se, dp, q⟩ := h
  rw [Bool.false_xor] at q
  obtain ⟨as, r1⟩ := Dp.reads I d x v hd rx
  rcases he with he | he
  · obtain ⟨bs, r2⟩ := Dp.reads I _ y u he ry
    exact SeqAt.in_list_data r2 r1 se sd (by omega) ⟨.bl _, H, I, rfl, q⟩
  · obtain ⟨bs, r2⟩ := Dp.reads I _ y u he ry
    exact SeqAt.in_tuple_data r2 r1 se sd (by omega) ⟨.bl _, H, I, rfl, q⟩
theorem op_notInP (hu : X.A.units + 64 < cLine) : OpR X (compareOp .NotIn) (rInP X.K true) := by
  intro pins s σ H x y v u Q I rx ry h
  obtain ⟨d, ds, hd, he, sd, se, dp, q⟩ := h
  rw [Bool.true_xor] at q
  obtain ⟨as, r1⟩ := Dp.reads I d x v hd rx
  rcases he with he | he
  · obtain ⟨bs, r2⟩ := Dp.reads I _ y u he ry
    exact SeqAt.notIn_list_data r2 r1 se sd (by omega) ⟨.bl _, H, I, rfl, q⟩
  · obtain ⟨bs, r2⟩ := Dp.reads I _ y u he ry
    exact SeqAt.notIn_tuple_data r2 r1 se sd (by omega) ⟨.bl _, H, I, rfl, q⟩
def rInDic (neg : Bool) : R2 := fun x y H Q => ∃ a o, y = .ref a ∧ DGet H a x o ∧ Q (.bl (xor neg o.isSome)) H
theorem op_inDic (hu : X.A.units + 1 < cLine) : OpR X (compareOp .In) (rInDic false) := by
  intro pins s σ H x y v u Q I rx ry h
  obtain ⟨a, o, rfl, g, q⟩ := h
  cases ry
  rw [Bool.false_xor] at q
  exact d_in hu I g rx fun s' I' => ⟨.bl _, H, I', rfl, q⟩
theorem op_notInDic (hu : X.A.units + 1 < cLine) : OpR X (compareOp .NotIn) (rInDic true) := by
  intro pins s σ H x y v u Q I rx ry h
  obtain ⟨a, o, rfl, g, q⟩ := h
  cases ry
  rw [Bool.true_xor] at q
  exact d_notIn hu I g rx fun s' I' => ⟨.bl _, H, I', rfl, q⟩
def rInSg (neg : Bool) : R2 := fun x y H Q => ∃ (c : Nat) (z : Str), x = .str ⟨#[c]⟩ ∧ y = .str z ∧ Q (.bl (xor neg (decide (c ∈ z.cps.toList)))) H
theorem op_inSg : OpR X (compareOp .In) (rInSg false) := by
  intro pins s σ H x y v u Q I rx ry h
  obtain ⟨c, z, e1, e2, q⟩ := h
  rw [Bool.false_xor] at q
  exact op_in_sign pins s σ H x y v u Q I rx ry ⟨c, z, e1, e2, q⟩
theorem op_notInSg : OpR X (compareOp .NotIn) (rInSg true) := by
  intro pins s σ H x y v u Q I rx ry h
  obtain ⟨c, z, e1, e2, q⟩ := h
  rw [Bool.true_xor] at q
  exact op_notIn_sign pins s σ H x y v u Q I rx ry ⟨c, z, e1, e2, q⟩
theorem in_reads {neg : Bool} {w : Wd} {v u : V} {a b z : D} {Q : VK} (gd : Good G w) (r1 : RepC G w a v) (r2 : RepC G w b u) (p : inS neg a b = some z) (wn : Want G w z Q) :
    (rInP X.K neg v u w.H Q ∨ rInDic neg v u w.H Q) ∨ rInSg neg v u w.H Q := by
  unfold inS at p
  split at p
  · rename_i z
    split at p
    · rename_i x
      split at p
      · rename_i c hc
        cases p
        refine .inr ⟨c, z, ?_, r2, wn.here (v := V.bl _) gd rfl⟩
        rw [show v = V.str x from r1]
        have : x.cps = #[c] := Array.ext' (by rw [hc])
        rw [← this]
      · cases p
    · cases p
  · rename_i ds
    unfold inD at p
    split at p
    · rename_i pd ps e1 e2
      split at p
      · rename_i hd
        cases p
        obtain ⟨a1, vs, rfl, h1, q1⟩ := r2
        exact .inl (.inl ⟨pd, ps, dp_at gd r1 e1, .inl (.lst (.of h1) (dpL_of gd ds vs ps q1 e2)), plain_toPy _ _ e1, plain_toPyL ds ps e2, hd, wn.here (v := V.bl _) gd rfl⟩)
      · cases p
    · cases p
  · rename_i ds
    unfold inD at p
    split at p
    · rename_i pd ps e1 e2
      split at p
      · rename_i hd
        cases p
        obtain ⟨a1, vs, rfl, h1, q1⟩ := r2
        exact .inl (.inl ⟨pd, ps, dp_at gd r1 e1, .inr (.tup (.of (gd.shN h1 rfl)) (dpL_of gd ds vs ps q1 e2)), plain_toPy _ _ e1, plain_toPyL ds ps e2, hd, wn.here (v := V.bl _) gd rfl⟩)
      · cases p
    · cases p
  · rename_i t kvs
    obtain ⟨o, eo, e⟩ := Option.map_eq_some_iff.mp p
    subst e
    obtain ⟨a1, rfl, q1⟩ := dget_at gd r2 r1 eo
    cases o with
    | some x =>
      obtain ⟨y, g1, _⟩ := q1
      exact .inl (.inr ⟨a1, some y, rfl, g1, wn.here (v := V.bl _) gd rfl⟩)
    | none => exact .inl (.inr ⟨a1, none, rfl, q1, wn.here (v := V.bl _) gd rfl⟩)
  · cases p
theorem os_in (vc : VC G X k Wx) : OpS G X (compareOp .In) (inS false) := ⟨_, ((op_inP vc.u64).or (op_inDic vc.hu)).or op_inSg, fun w v u a b z Q gd r1 r2 p wn => in_reads gd r1 r2 p wn⟩
theorem os_notIn (vc : VC G X k Wx) : OpS G X (compareOp .NotIn) (inS true) := ⟨_, ((op_notInP vc.u64).or (op_notInDic vc.hu)).or op_notInSg, fun w v u a b z Q gd r1 r2 p wn => in_reads gd r1 r2 p wn⟩
/-! ### is -/
def isD : D → Bool
  | .non => true
  | _ => false
def isS (neg : Bool) (a b : D) : Option D := match a, b with
  | a, .non => some (.bl (xor neg (isD a)))
  | .bl x, .bl y => some (.bl (xor neg (decide (x = y))))
  | _, _ => none
theorem rep_non {w : Wd} {d : D} {v : V} (r : RepC G w d v) : decide (v = V.non) = isD d := by
  cases d with
  | non => rw [show v = _ from r]; rfl
  | bl b => rw [show v = _ from r]; rfl
  | int b => rw [show v = _ from r]; rfl
  | str b => rw [show v = _ from r]; rfl
  | lst b => obtain ⟨a, vs, e, _⟩ := r; rw [e]; rfl
  | tup b => obtain ⟨a, vs, e, _⟩ := r; rw [e]; rfl
  | dic t b => obtain ⟨a, e, _⟩ := r; rw [e]; rfl
  | ins c b => obtain ⟨a, dx, vs, e, _⟩ := r; rw [e]; rfl
  | fn f => rw [show v = _ from r]; rfl
  | scr f => obtain ⟨a, e, _⟩ := r; rw [e]; rfl
  | ty f => rw [show v = _ from r]; rfl
theorem os_is : OpS G X (compareOp .Is) (isS false) := ⟨_, op_isN.or op_isBl, fun w v u a b z Q gd r1 r2 p wn => by
    unfold isS at p
    split at p
    · cases p
      refine .inl ⟨r2, ?_⟩
      rw [rep_non r1]
      exact wn.here (v := V.bl _) gd (by rw [Bool.false_xor]; rfl)
    · rename_i x y
      cases p
      exact .inr ⟨x, y, r1, r2, wn.here (v := V.bl _) gd (by rw [Bool.false_xor]; rfl)⟩
    · cases p⟩
theorem os_isNot : OpS G X (compareOp .IsNot) (isS true) := ⟨_, op_notN.or op_notBl, fun w v u a b z Q gd r1 r2 p wn => by
    unfold isS at p
    split at p
    · cases p
      refine .inl ⟨r2, ?_⟩
      rw [rep_non r1]
      exact wn.here (v := V.bl _) gd (by rw [Bool.true_xor]; rfl)
    · rename_i x y
      cases p
      exact .inr ⟨x, y, r1, r2, wn.here (v := V.bl _) gd (by rw [Bool.true_xor]; rfl)⟩
    · cases p⟩
end
end VL
set_option Elab.async false
set_option linter.all false
set_option maxRecDepth 100000
set_option maxHeartbeats 4000000
namespace VL
open PySem PySem.Spec PyProof.Rows L2
section
variable {G : Gm} {X : Cx} {k : Nat} {Wx : WX}
/-! ### displays -/
def mkTup (ds : List D) : Option D := if ds.length ≤ sizeLine then some (.tup ds) else none
def mkLst (ds : List D) : Option D := if ds.length ≤ sizeLine then some (.lst ds) else none
/-- data alone -/
def pureD : Vl → Option D
  | .d x => some x
  | .o _ => none
def pureL : List Vl → Option (List D)
  | [] => some []
  | v :: vs => match pureD v, pureL vs with
    | some d, some ds => some (d :: ds)
    | _, _ => none
@[simp] theorem pureD_d (x : D) : pureD (.d x) = some x := rfl
@[simp] theorem pureL_nil : pureL [] = some [] := rfl
@[simp] theorem pureL_cons (x : D) (vs : List Vl) : pureL (.d x :: vs) = (pureL vs).map (x :: ·) := by
  show (match some x, pureL vs with | some d, some ds => some (d :: ds) | _, _ => none) = _
  cases pureL vs <;> rfl
theorem pure_rep {w : Wd} {a : Vl} {v : V} {d : D} (r : RepV G w a v) (e : pureD a = some d) : Rep G w d v := by
  cases a with
  | d x => cases e; exact r
  | o i => cases e
theorem pure_reps {w : Wd} : ∀ {as : List Vl} {vs : List V} {ds : List D}, RepVs G w as vs → pureL as = some ds → Reps G w ds vs
  | [], vs, ds, r, e => by cases e; exact r
  | a :: as, vs, ds, r, e => by
    obtain ⟨v, r', rfl, r1, r2⟩ := r
    unfold pureL at e
    split at e
    · rename_i d ds' e1 e2
      cases e
      exact ⟨v, r', rfl, pure_rep r1 e1, pure_reps r2 e2⟩
    · cases e
def onP (g : List D → Option D) (as : List Vl) (W : List O) : Res Vl := ofO (((pureL as).bind g).map .d) W
def eDisp (g : List D → Option D) (fa : Sem (List Vl)) : Sem Vl := fun ρ W => (fa ρ W).bind fun a W1 => onP g a W1
theorem Post.onP {w : Wd} {σ : L2.St} {Q : VK} {g : List D → Option D} {as : List Vl} (p : Post G (RepV G) Wx σ w (onP g as w.W) Q) : ∃ xs z, pureL as = some xs ∧ g xs = some z ∧ Want G w z Q := by
  obtain ⟨v, e, p⟩ := p.ofO
  obtain ⟨z, e1, rfl⟩ := Option.map_eq_some_iff.mp e
  obtain ⟨x, e2, e3⟩ := Option.bind_eq_some_iff.mp e1
  exact ⟨x, z, e2, e3, p.want⟩
theorem se_tup {es : List Expr} {fs : Sem (List Vl)} {x1} {pos : Pos} (h : SA G X Wx es fs) : SE G X Wx (.Tuple es x1 pos) (eDisp mkTup fs) :=
  PE.imp (pe_tup h) fun σ H Q hh => arg1 hh fun ρ w vs ds g1 _ r1 p => by
    obtain ⟨xs, z, c1, e, wn⟩ := p.onP
    have r := pure_reps r1 c1
    unfold mkTup at e
    split at e
    · rename_i hl
      cases e
      exact ⟨by rw [r.length]; exact hl, fun a ha => want_new wn g1 (fun _ z => by cases z) ha ⟨a, _, rfl, upd_same, Reps.mono (le_new g1 ha) _ _ r⟩⟩
    · cases e
theorem se_lst {es : List Expr} {fs : Sem (List Vl)} {pos : Pos} (h : SA G X Wx es fs) : SE G X Wx (.List es pos) (eDisp mkLst fs) :=
  PE.imp (pe_lst h) fun σ H Q hh => arg1 hh fun ρ w vs ds g1 _ r1 p => by
    obtain ⟨xs, z, c1, e, wn⟩ := p.onP
    have r := pure_reps r1 c1
    unfold mkLst at e
    split at e
    · rename_i hl
      cases e
      exact ⟨by rw [r.length]; exact hl, fun a ha => want_new wn g1 (fun _ z => by cases z) ha ⟨a, _, rfl, upd_same, Reps.mono (le_new g1 ha) _ _ r⟩⟩
    · cases e
/-- a list that will be changed -/
def newObj (x : O) (W : List O) : Res Vl := .ok (.o W.length) (W ++ [x])
def mkObjL (as : List Vl) (W : List O) : Res Vl := match pureL as with
  | some ds => if ds.length ≤ sizeLine then newObj (.lst ds) W else .bad
  | none => .bad
def eLstO (fa : Sem (List Vl)) : Sem Vl := fun ρ W => (fa ρ W).bind fun a W1 => mkObjL a W1
theorem post_push {σ : L2.St} {w : Wd} {x : O} {Q : VK} (g : Good G w) (p : Post G (RepV G) Wx σ w (newObj x w.W) Q) {a : Addr} {o : HO} (ha : w.H a = none) (ho : ∀ ps, o ≠ .tbl ps) (hr : ∀ w' : Wd, Le w w' → w'.H a = some o → RepO G w' a x) : Q (.ref a) (upd w.H a o) := by
  have kk : ∀ b u, w.H b = some u → upd w.H a o b = some u := fun b u h => by rw [upd_ne (ne_of_none h ha)]; exact h
  have l := le_push (x := x) ha kk
  refine p (w.push (upd w.H a o) a x) (.ref a) l (good_push g ha kk (by rw [upd_same]; exact fun z => loose_some z ho) (hr _ l upd_same)) rfl ⟨?_, ?_⟩
  · show w.W.length < (w.W ++ [x]).length; simp
  · rw [push_mu_new]
theorem se_lstO {es : List Expr} {fs : Sem (List Vl)} {pos : Pos} (h : SA G X Wx es fs) : SE G X Wx (.List es pos) (eLstO fs) :=
  PE.imp (pe_lst h) fun σ H Q hh => arg1 hh fun ρ w vs ds g1 _ r1 p => by
    unfold mkObjL at p
    split at p
    · rename_i xs c1
      have r := pure_reps r1 c1
      split at p
      · rename_i hl
        exact ⟨by rw [r.length]; exact hl, fun a ha => post_push g1 p ha (fun _ z => by cases z) fun w' l e => ⟨vs, e, Reps.mono l _ _ r⟩⟩
      · exact p.elim
    · exact p.elim
/-! ### subscripts -/
def idxS (a b : D) : Option D := match a with
  | .str z => match b with
    | .int i => if z.length ≤ sizeLine then (atI z.cps.toList i).map fun c => .str ⟨#[c]⟩ else none
    | _ => none
  | .scr xs => match b with
    | .int i => (atI xs i).map .int
    | _ => none
  | .lst ds => match b with
    | .int i => atI ds i
    | _ => none
  | .tup ds => match b with
    | .int i => atI ds i
    | _ => none
  | .dic t kvs => (dget t kvs b).bind id
  | _ => none
def rIxD : R2 := fun x y H Q => ∃ a v, x = .ref a ∧ DGet H a y (some v) ∧ Q v H
theorem ix_dic (hu : X.A.units + 1 < cLine) : IxR X rIxD := by
  intro value slice pins s σ H x y v u Q I rx ry h hs
  obtain ⟨a, z, rfl, g, q⟩ := h
  cases rx
  exact tail_any (ops := [Value.ref a, u]) (dict_typeIs I g) PySem.F.slot_dict_getitem.lookup (d_getItem hu I g ry fun w' s' I' r' => ⟨z, H, I', r', q⟩) hs
theorem atI_reps {w : Wd} {ds : List D} {vs : List V} {i : Int} {d : D} (r : Reps G w ds vs) (e : atI ds i = some d) : ∃ v, atI vs i = some v ∧ Rep G w d v := by
  unfold atI at e ⊢
  obtain ⟨j, e1, e2⟩ := Option.bind_eq_some_iff.mp e
  obtain ⟨v, e3, e4⟩ := r.get e2
  exact ⟨v, by rw [r.length, e1]; exact e3, e4⟩
theorem scr_sq {w : Wd} {a : Addr} {xs : List V} (eK : G.K = X.K) (gd : Good G w) (h : SqL G.K w.Hs a xs) : SqL X.K w.H a xs := by
  rw [← eK]
  rcases h with h | h
  · exact .inl (gd.shR h)
  · exact .inr h
theorem idx_reads {w : Wd} {v u : V} {a b z : D} {Q : VK} (eK : G.K = X.K) (gd : Good G w) (r1 : RepC G w a v) (r2 : RepC G w b u) (p : idxS a b = some z) (wn : Want G w z Q) :
    (rIxL X.K v u w.H Q ∨ rIxT X.K v u w.H Q) ∨ (rIxS v u w.H Q ∨ rIxD v u w.H Q) := by
  unfold idxS at p
  split at p
  · rename_i z
    split at p
    · rename_i i
      split at p
      · rename_i hl
        obtain ⟨c, e1, e2⟩ := Option.map_eq_some_iff.mp p
        subst e2
        exact .inr (.inl ⟨z, i, c, r1, r2, hl, e1, wn.here (v := V.str _) gd rfl⟩)
      · cases p
    · cases p
  · rename_i xs
    split at p
    · rename_i i
      obtain ⟨c, e1, e2⟩ := Option.map_eq_some_iff.mp p
      subst e2
      obtain ⟨a, rfl, hq⟩ := r1
      refine .inl (.inl ⟨a, xs.map V.int, i, .int c, rfl, r2, scr_sq eK gd hq, ?_, wn.here (v := V.int _) gd rfl⟩)
      unfold atI at e1 ⊢
      obtain ⟨j, h1, h2⟩ := Option.bind_eq_some_iff.mp e1
      rw [List.length_map, h1]
      simp [h2]
    · cases p
  · rename_i ds
    split at p
    · rename_i i
      obtain ⟨a1, vs, rfl, h1, q1⟩ := r1
      obtain ⟨y, e2, e3⟩ := atI_reps q1 p
      exact .inl (.inl ⟨a1, vs, i, y, rfl, r2, .of h1, e2, wn.here gd e3⟩)
    · cases p
  · rename_i ds
    split at p
    · rename_i i
      obtain ⟨a1, vs, rfl, h1, q1⟩ := r1
      obtain ⟨y, e2, e3⟩ := atI_reps q1 p
      exact .inl (.inr ⟨a1, vs, i, y, rfl, r2, .of (gd.shN h1 rfl), e2, wn.here gd e3⟩)
    · cases p
  · rename_i t kvs
    obtain ⟨o, eo, e⟩ := Option.bind_eq_some_iff.mp p
    obtain rfl : o = some z := e
    obtain ⟨a1, rfl, y, g1, r3⟩ := dget_at gd r1 r2 eo
    exact .inr (.inr ⟨a1, y, rfl, g1, wn.here gd r3⟩)
  · cases p
theorem se_idx {a b : Expr} {fa fb : Sem Vl} {pos : Pos} (vc : VC G X k Wx) (ha : SE G X Wx a fa) (hb : SE G X Wx b fb) (hs : PlainIx b := by exact fun _ _ => rfl) : SE G X Wx (.Subscript a b pos) (eBin idxS fa fb) :=
  PE.imp (pe_ix ((ix_list.or ix_tup).or (ix_str.or (ix_dic vc.hu))) ha hb hs) fun σ H Q hh => bin2 hh fun ρ w v u a b g1 _ r1 r2 p => by
    obtain ⟨x, y, z, c1, c2, e, wn⟩ := p.on2
    exact idx_reads vc.eK g1 (r1.now g1 c1) (r2.now g1 c2) e wn
/-! ### slices -/
def cutD (xs : List D) (lo hi : Option Int) : List D := (xs.drop (HT.sIx xs.length 0 lo)).take (HT.sIx xs.length xs.length hi - HT.sIx xs.length 0 lo)
def sliceS (a : D) (lo hi : Option Int) : Option D := match a with
  | .str z => if z.length ≤ sizeLine then some (.str (cutS z lo hi)) else none
  | .tup xs => some (.tup (cutD xs lo hi))
  | .lst ds => some (.lst (cutD ds lo hi))
  | _ => none
theorem cut_reps {w : Wd} {ds : List D} {vs : List V} {lo hi : Option Int} (r : Reps G w ds vs) : Reps G w (cutD ds lo hi) (cutV vs lo hi) := by
  unfold cutD cutV
  rw [r.length]
  exact (r.drop _).take _
theorem cut_whole {ds : List D} {lo hi : Option Int} (h : HT.sIx ds.length 0 lo = 0 ∧ HT.sIx ds.length ds.length hi = ds.length) : cutD ds lo hi = ds := by
  unfold cutD
  rw [h.1, h.2]
  simp
abbrev RO : Wd → Option Int → Option Int → Prop := fun _ a b => a = b
abbrev SO (G : Gm) (X : Cx) (Wx : WX) (e : Option Expr) (f : Sem (Option Int)) : Prop := PO X e (tV G RO Wx f)
def oNone : Sem (Option Int) := fun _ W => .ok none W
def oSome (f : Sem Vl) : Sem (Option Int) := fun ρ W => (f ρ W).bind fun d W1 => match d with
  | .d (.int i) => .ok (some i) W1
  | _ => .bad
theorem PO.imp {e : Option Expr} {t t' : TO} (h : PO X e t) (k : ∀ σ H Q, t' σ H Q → t σ H Q) : PO X e t' := ⟨fun pins s σ H Q I q => h.run pins s σ H Q I (k σ H Q q)⟩
theorem so_none : SO G X Wx none oNone := PO.imp po_none fun σ H Q ⟨w, ρ, e, g, er, p⟩ => by subst e; exact p.ret (b := (none : Option Int)) g rfl
theorem so_some {e : Expr} {f : Sem Vl} (h : SE G X Wx e f) : SO G X Wx (some e) (oSome f) := PO.imp (po_some h) fun σ H Q hh => un1 hh fun ρ w v a g1 _ r1 p => by
  split at p
  · rename_i i
    exact ⟨i, r1, p.ret (b := some i) g1 rfl⟩
  · exact p.elim
def eSlice (fa : Sem Vl) (fl fh : Sem (Option Int)) : Sem Vl := fun ρ W => (fa ρ W).bind fun a W1 => (fl ρ W1).bind fun l W2 => (fh ρ W2).bind fun h W3 => on1 (fun x => sliceS x l h) a W3
theorem slice_reads {w3 : Wd} {v : V} {a z : D} {l h : Option Int} {Q : VK} (eK : G.K = X.K) (g3 : Good G w3) (r1' : RepC G w3 a v) (p3 : sliceS a l h = some z) (wn : Want G w3 z Q) :
    rSlL X.K v l h w3.H Q ∨ (rSlA X.K v l h w3.H Q ∨ rSlS v l h w3.H Q) := by
  unfold sliceS at p3
  split at p3
  · rename_i z
    split at p3
    · rename_i hz
      cases p3
      exact .inr (.inr ⟨z, r1', hz, wn.here (v := V.str _) g3 rfl⟩)
    · cases p3
  · rename_i xs
    cases p3
    obtain ⟨a1, vs, rfl, h1, q1⟩ := r1'
    have ln := q1.length
    refine .inr (.inl ⟨a1, vs, rfl, .of (g3.shN h1 rfl), fun hw => ?_, fun hw a ha => ?_⟩)
    · rw [ln] at hw
      rw [cut_whole hw] at wn
      exact wn.here (v := V.ref a1) g3 ⟨a1, vs, rfl, h1, q1⟩
    · exact want_new wn g3 (fun _ z => by cases z) ha ⟨a, _, rfl, upd_same, cut_reps (Reps.mono (le_new g3 ha) _ _ q1)⟩
  · rename_i ds
    cases p3
    obtain ⟨a1, vs, rfl, h1, q1⟩ := r1'
    exact .inl ⟨a1, vs, rfl, .of h1, fun a ha => want_new wn g3 (fun _ z => by cases z) ha ⟨a, _, rfl, upd_same, cut_reps (Reps.mono (le_new g3 ha) _ _ q1)⟩⟩
  · cases p3
theorem se_slice {a : Expr} {fa : Sem Vl} {lo hi : Option Expr} {fl fh : Sem (Option Int)} {p2 pos : Pos} (vc : VC G X k Wx) (ha : SE G X Wx a fa) (hl : SO G X Wx lo fl) (hh : SO G X Wx hi fh) : SE G X Wx (.Subscript a (.Slice lo hi none p2) pos) (eSlice fa fl fh) := by
  refine PE.imp (pe_slice (sl_list.or (sl_tupA.or sl_str)) ha hl hh) fun σ H Q q => ?_
  obtain ⟨w, ρ, rfl, gd, er, p⟩ := q
  refine ⟨w, ρ, rfl, gd, er, (Post.bind (R := RepV G) p).mono fun v H1 ⟨w1, a, e1, l1, g1, r1, p1⟩ => ?_⟩
  subst e1
  refine ⟨w1, ρ, rfl, g1, er.mono l1, (Post.bind (R := RO) p1).mono fun l H2 ⟨w2, b, e2, l2, g2, r2, p2⟩ => ?_⟩
  subst e2
  refine ⟨w2, ρ, rfl, g2, (er.mono l1).mono l2, (Post.bind (R := RO) p2).mono fun h H3 ⟨w3, c, e3, l3, g3, r3, p3⟩ => ?_⟩
  subst e3
  cases r2
  cases r3
  obtain ⟨x, z, c1, e, wn⟩ := p3.on1
  exact slice_reads vc.eK g3 (RepV.now g3 (RepV.mono l3 _ _ (RepV.mono l2 _ _ r1)) c1) e wn
/-- xs[::-1] of a list -/
def revS (a : D) : Option D := match a with
  | .lst ds => some (.lst ds.reverse)
  | _ => none
theorem se_rev {e : Expr} {f : Sem Vl} {j : Nat} {p1 p2 p3 pos : Pos} (he : SE G X Wx e f) : SE G X Wx (.Subscript e (.Slice none none (some (.UnaryOp .USub (.Constant (.int 1) j p1) p2)) p3) pos) (eUn revS f) :=
  PE.imp (pe_revL he) fun σ H Q hh => un1 hh fun ρ w v a gd _ r1 p => by
    obtain ⟨x, z, c1, e, wn⟩ := p.on1
    have r := r1.now gd c1
    unfold revS at e
    split at e
    · cases e
      obtain ⟨a1, vs, rfl, h1, q1⟩ := r
      exact ⟨a1, vs, rfl, .of h1, fun a ha => want_new wn gd (fun _ z => by cases z) ha ⟨a, _, rfl, upd_same, (Reps.mono (le_new gd ha) _ _ q1).reverse⟩⟩
    · cases e
/-! ### tests -/
def tOf (f : Sem Vl) : Sem Bool := fun ρ W => (f ρ W).bind fun d W1 => match d with
  | .d (.bl b) => .ok b W1
  | _ => .bad
theorem st_val {e : Expr} {f : Sem Vl} (h : SE G X Wx e f) (he : ∀ whole, isTrue e X.env whole = (do let v ← whole; standAt e.pos; holding [v] (truthy v)) := by intro _; rfl) : ST G X Wx e (tOf f) :=
  PT.imp (pt_val h he) fun σ H Q hh => un1 hh fun ρ w v a g1 _ r1 p => by
    split at p
    · rename_i b
      exact ⟨b, r1, p.ret (b := b) g1 rfl⟩
    · exact p.elim
theorem st_cmp {op : CmpOp} {a b : Expr} {fa fb : Sem Vl} {pos : Pos} {g : D → D → Option D} (ho : OpS G X (compareOp op) g) (ha : SE G X Wx a fa) (hb : SE G X Wx b fb) (hm : behindInMarks op b = false := by first | exact nomark _ (by decide) (by decide) | rfl) :
    ST G X Wx (.Compare a [op] [b] pos) (tOf (eBin g fa fb)) := by
  obtain ⟨r, h1, h2⟩ := ho
  refine PT.imp (pt_cmpR h1 ha hb hm) fun σ H Q hh => ?_
  have hh' : tV G RB Wx (fun ρ W => (fa ρ W).bind fun a W1 => (fb ρ W1).bind fun b W2 => (on2 g a b W2).bind fun d W3 => match d with
    | .d (.bl b) => .ok b W3
    | _ => .bad) σ H Q := by
      obtain ⟨w, ρ, e, gd, er, p⟩ := hh
      refine ⟨w, ρ, e, gd, er, ?_⟩
      unfold tOf eBin at p
      simp only [bind_assoc] at p
      exact p
  exact bin2 hh' fun ρ w v u a b g1 _ r1 r2 p => by
    obtain ⟨x, y, z, c1, c2, e, wn⟩ := ((Post.bind (R := RepV G) p)).on2
    refine h2 w v u x y z _ g1 (r1.now g1 c1) (r2.now g1 c2) e fun w' v' l g' eW r' => ?_
    obtain ⟨w1, d, e1, l1, g2, rr, p1⟩ := wn w' v' l g' eW r'
    split at p1
    · rename_i b
      rw [← e1]
      exact ⟨b, rr, p1.ret (b := b) g2 rfl⟩
    · exact p1.elim
def tAndD (f g : Sem Bool) : Sem Bool := fun ρ W => (f ρ W).bind fun b W1 => if b then g ρ W1 else .ok false W1
def tOrD (f g : Sem Bool) : Sem Bool := fun ρ W => (f ρ W).bind fun b W1 => if b then .ok true W1 else g ρ W1
def tNotD (f : Sem Bool) : Sem Bool := fun ρ W => (f ρ W).bind fun b W1 => .ok (!b) W1
section
variable {a b : Expr} {rest : List Expr} {f g : Sem Bool} {pos : Pos}
theorem tst1 {γ δ : Type} {R' : Wd → γ → δ → Prop} {fa : Sem Bool} {g : Rho → Bool → List O → Res γ} {σ : L2.St} {H : Hp} {Q : δ → Hp → Prop} {r : Bool → Hp → Prop}
    (hh : tV G R' Wx (fun ρ W => (fa ρ W).bind fun a W1 => g ρ a W1) σ H Q)
    (hr : ∀ ρ w a, Good G w → ER G w ρ σ → Post G R' Wx σ w (g ρ a w.W) Q → r a w.H) : tT G Wx fa σ H fun v H1 => r v H1 := by
  obtain ⟨w, ρ, rfl, gd, er, p⟩ := hh
  refine ⟨w, ρ, rfl, gd, er, (Post.bind (R := RB) p).mono fun v H1 ⟨w1, a, e1, l1, g1, r1, p1⟩ => ?_⟩
  subst e1
  cases r1
  exact hr ρ w1 v g1 (er.mono l1) p1
theorem sw_and1 (h : ST G X Wx a f) : SW G X Wx (.BoolOp .And [a] pos) f := pw_and1 h
theorem sw_or1 (h : ST G X Wx a f) : SW G X Wx (.BoolOp .Or [a] pos) f := pw_or1 h
theorem sw_and (ha : ST G X Wx a f) (hb : SW G X Wx (.BoolOp .And (b :: rest) pos) g) : SW G X Wx (.BoolOp .And (a :: b :: rest) pos) (tAndD f g) :=
  PW.imp (pw_and ha hb) fun σ H Q hh => tst1 hh fun ρ w c g1 er p => by
    cases c with
    | true => rw [if_pos rfl]; exact ⟨w, ρ, rfl, g1, er, p⟩
    | false => rw [if_neg Bool.false_ne_true]; exact p.ret (b := false) g1 rfl
theorem sw_or (ha : ST G X Wx a f) (hb : SW G X Wx (.BoolOp .Or (b :: rest) pos) g) : SW G X Wx (.BoolOp .Or (a :: b :: rest) pos) (tOrD f g) :=
  PW.imp (pw_or ha hb) fun σ H Q hh => tst1 hh fun ρ w c g1 er p => by
    cases c with
    | false => rw [if_neg Bool.false_ne_true]; exact ⟨w, ρ, rfl, g1, er, p⟩
    | true => rw [if_pos rfl]; exact p.ret (b := true) g1 rfl
theorem st_w (h : SW G X Wx a f) : ST G X Wx a f := PW.pt h
theorem st_not (h : ST G X Wx a f) : ST G X Wx (.UnaryOp .Not a pos) (tNotD f) :=
  PT.imp (pt_not h) fun σ H Q hh => tst1 hh fun ρ w c g1 er p => p.ret (b := !c) g1 rfl
end
/-! ### and, or, not as values -/
def eAnd (f g : Sem Vl) : Sem Vl := fun ρ W => (f ρ W).bind fun d W1 => match d with
  | .d (.bl true) => g ρ W1
  | .d (.bl false) => .ok (.d (.bl false)) W1
  | _ => .bad
def eOr (f g : Sem Vl) : Sem Vl := fun ρ W => (f ρ W).bind fun d W1 => match d with
  | .d (.bl false) => g ρ W1
  | .d (.bl true) => .ok (.d (.bl true)) W1
  | _ => .bad
def notS (a : D) : Option D := match a with
  | .bl b => some (.bl (!b))
  | _ => none
section
variable {a b : Expr} {rest : List Expr} {f g : Sem Vl} {pos : Pos}
theorem se_one {op} (h : SE G X Wx a f) : SE G X Wx (.BoolOp op [a] pos) f := pe_one h
theorem se_and (ha : SE G X Wx a f) (hb : SE G X Wx (.BoolOp .And (b :: rest) pos) g) : SE G X Wx (.BoolOp .And (a :: b :: rest) pos) (eAnd f g) :=
  PE.imp (pe_and ha hb) fun σ H Q hh => un1 hh fun ρ w v d g1 er r1 p => by
    split at p
    · exact ⟨true, r1, by rw [if_pos rfl]; exact ⟨w, ρ, rfl, g1, er, p⟩⟩
    · exact ⟨false, r1, by rw [if_neg Bool.false_ne_true]; exact p.ret (b := V.bl false) g1 rfl⟩
    · exact p.elim
theorem se_or (ha : SE G X Wx a f) (hb : SE G X Wx (.BoolOp .Or (b :: rest) pos) g) : SE G X Wx (.BoolOp .Or (a :: b :: rest) pos) (eOr f g) :=
  PE.imp (pe_or ha hb) fun σ H Q hh => un1 hh fun ρ w v d g1 er r1 p => by
    split at p
    · exact ⟨false, r1, by rw [if_neg Bool.false_ne_true]; exact ⟨w, ρ, rfl, g1, er, p⟩⟩
    · exact ⟨true, r1, by rw [if_pos rfl]; exact p.ret (b := V.bl true) g1 rfl⟩
    · exact p.elim
theorem se_not (h : SE G X Wx a f) : SE G X Wx (.UnaryOp .Not a pos) (eUn notS f) :=
  PE.imp (pe_not h) fun σ H Q hh => un1 hh fun ρ w v d g1 er r1 p => by
    obtain ⟨x, z, c1, e, wn⟩ := p.on1
    have r := r1.now g1 c1
    unfold notS at e
    split at e
    · rename_i b
      cases e
      exact ⟨b, r, wn.here (v := V.bl _) g1 rfl⟩
    · cases e
def eIf (t : Sem Bool) (f g : Sem Vl) : Sem Vl := fun ρ W => (t ρ W).bind fun b W1 => if b then f ρ W1 else g ρ W1
theorem se_if {c : Expr} {t : Sem Bool} (hc : ST G X Wx c t) (ha : SE G X Wx a f) (hb : SE G X Wx b g) : SE G X Wx (.IfExp c a b pos) (eIf t f g) :=
  PE.imp (pe_ifExp hc ha hb) fun σ H Q hh => tst1 hh fun ρ w c g1 er p => by
    cases c with
    | true => rw [if_pos rfl]; exact ⟨w, ρ, rfl, g1, er, p⟩
    | false => rw [if_neg Bool.false_ne_true]; exact ⟨w, ρ, rfl, g1, er, p⟩
/-- -n -/
def negS (a : D) : Option D := match a with
  | .int i => some (.int (-i))
  | _ => none
theorem us_neg : UnS G X (unaryOp .USub) negS := ⟨_, un_neg, fun w v a z Q gd r p wn => by
  unfold negS at p
  split at p
  · rename_i i
    cases p
    exact ⟨i, r, wn.here (v := V.int _) gd rfl⟩
  · cases p⟩
/-- a < b < c -/
def eChain (g g' : D → D → Option D) (fa fb fc : Sem Vl) : Sem Vl := fun ρ W => (fa ρ W).bind fun a W1 => (fb ρ W1).bind fun b W2 => (on2 g a b W2).bind fun z W3 => match z with
  | .d (.bl true) => (fc ρ W3).bind fun c W4 => on2 g' b c W4
  | .d (.bl false) => .ok (.d (.bl false)) W3
  | _ => .bad
theorem se_chain {op op' : CmpOp} {g1 g2 : D → D → Option D} {c : Expr} {fc : Sem Vl} (ho : OpS G X (compareOp op) g1) (ho' : OpS G X (compareOp op') g2) (ha : SE G X Wx a f) (hb : SE G X Wx b g) (hc : SE G X Wx c fc)
    (hl : lastMarks [op, op'] [b, c] = false := by with_unfolding_all rfl) :
    SE G X Wx (.Compare a [op, op'] [b, c] pos) (eChain g1 g2 f g fc) := by
  obtain ⟨r, h1, h2⟩ := ho
  obtain ⟨r', h1', h2'⟩ := ho'
  refine PE.imp (pe_chain h1 h1' ha hb hc hl) fun σ H Q hh => ?_
  refine bin2 hh fun ρ w v u a b gd er ra rb p => ?_
  obtain ⟨x, y, z, c1, c2, e, wn⟩ := ((Post.bind (R := RepV G) p)).on2
  refine h2 w v u x y z _ gd (ra.now gd c1) (rb.now gd c2) e fun w' v' l g' eW r' => ?_
  obtain ⟨w3, d, e3, l3, g3, rr, p3⟩ := wn w' v' l g' eW r'
  rw [← e3]
  split at p3
  · refine ⟨true, rr, ?_⟩
    rw [if_pos rfl]
    refine ⟨w3, ρ, rfl, g3, er.mono l3, (Post.bind (R := RepV G) p3).mono fun u4 H4 ⟨w4, c, e4, l4, g4, r4, p4⟩ => ?_⟩
    subst e4
    obtain ⟨x2, y2, z2, c21, c22, e2, wn2⟩ := p4.on2
    exact h2' w4 u u4 x2 y2 z2 Q g4 (RepV.now g4 (RepV.mono l4 _ _ (RepV.mono l3 _ _ rb)) c21) (r4.now g4 c22) e2 wn2
  · refine ⟨false, rr, ?_⟩
    rw [if_neg Bool.false_ne_true]
    exact p3.ret (b := V.bl false) g3 rfl
  · exact p3.elim
end
end
end VL
set_option Elab.async false
set_option linter.all false
set_option maxRecDepth 100000
set_option maxHeartbeats 4000000
namespace VL
open PySem PySem.Spec PyProof.Rows L2
/-! ### statements' runs -/
inductive Fl where
  | nx | rt (d : Vl) | bk | ct
inductive ResS where
  | ok (f : Fl) (ρ : Rho) (W : List O)
  | exc (c : Nat) (fs : List D) (ρ : Rho) (W : List O)
  | bad
abbrev SemS := Rho → List O → ResS
def ResS.bind (r : ResS) (k : Fl → Rho → List O → ResS) : ResS := match r with
  | .ok f ρ W => k f ρ W
  | .exc c fs ρ W => .exc c fs ρ W
  | .bad => .bad
def liftS {α : Type} (r : Res α) (ρ : Rho) (k : α → List O → ResS) : ResS := match r with
  | .ok a W => k a W
  | .exc c fs W => .exc c fs ρ W
  | .bad => .bad
def ResS.thn (r : ResS) (g : SemS) : ResS := r.bind fun f ρ W => match f with
  | .nx => g ρ W
  | f => .ok f ρ W
@[simp] theorem sbind_ok (f : Fl) (ρ : Rho) (W : List O) (k : Fl → Rho → List O → ResS) : (ResS.ok f ρ W).bind k = k f ρ W := rfl
@[simp] theorem sbind_exc (c : Nat) (fs : List D) (ρ : Rho) (W : List O) (k : Fl → Rho → List O → ResS) : (ResS.exc c fs ρ W).bind k = .exc c fs ρ W := rfl
@[simp] theorem sbind_bad (k : Fl → Rho → List O → ResS) : ResS.bad.bind k = .bad := rfl
@[simp] theorem liftS_ok {α : Type} (a : α) (W : List O) (ρ : Rho) (k : α → List O → ResS) : liftS (.ok a W) ρ k = k a W := rfl
@[simp] theorem liftS_exc {α : Type} (c : Nat) (fs : List D) (W : List O) (ρ : Rho) (k : α → List O → ResS) : liftS (.exc c fs W) ρ k = .exc c fs ρ W := rfl
@[simp] theorem liftS_bad {α : Type} (ρ : Rho) (k : α → List O → ResS) : liftS .bad ρ k = .bad := rfl
@[simp] theorem thn_nx (ρ : Rho) (W : List O) (g : SemS) : (ResS.ok .nx ρ W).thn g = g ρ W := rfl
@[simp] theorem thn_rt (d : Vl) (ρ : Rho) (W : List O) (g : SemS) : (ResS.ok (.rt d) ρ W).thn g = .ok (.rt d) ρ W := rfl
@[simp] theorem thn_bk (ρ : Rho) (W : List O) (g : SemS) : (ResS.ok .bk ρ W).thn g = .ok .bk ρ W := rfl
@[simp] theorem thn_ct (ρ : Rho) (W : List O) (g : SemS) : (ResS.ok .ct ρ W).thn g = .ok .ct ρ W := rfl
@[simp] theorem thn_exc (c : Nat) (fs : List D) (ρ : Rho) (W : List O) (g : SemS) : (ResS.exc c fs ρ W).thn g = .exc c fs ρ W := rfl
@[simp] theorem thn_bad (g : SemS) : ResS.bad.thn g = .bad := rfl

def PostFl (G : Gm) (w : Wd) (f : Fl) (ρ : Rho) (D : Ends) : Prop := match f with
  | .nx => ∀ σ, ER G w ρ σ → D.nx σ w.H
  | .bk => ∀ σ, ER G w ρ σ → D.bk σ w.H
  | .ct => ∀ σ, ER G w ρ σ → D.ct σ w.H
  | .rt d => ∀ v, RepV G w d v → D.rt v w.H
def PostS (G : Gm) (Wx : WX) (w : Wd) (r : ResS) (D : Ends) : Prop := match r with
  | .ok f ρ Wo => ∀ w', Le w w' → Good G w' → w'.W = Wo → PostFl G w' f ρ D
  | .exc c fs ρ Wo => ∀ w' σ dd, Le w w' → Good G w' → w'.W = Wo → ER G w' ρ σ → RepX G w' dd c fs → Wx (.ref (G.ca c)) (some dd) σ w'.H
  | .bad => False
def tS (G : Gm) (Wx : WX) (f : SemS) : TS := fun D σ H => ∃ w ρ, w.H = H ∧ Good G w ∧ ER G w ρ σ ∧ PostS G Wx w (f ρ w.W) D
abbrev SS (G : Gm) (X : Cx) (Wx : WX) (st : Stmt) (f : SemS) : Prop := PS X st (tS G Wx f)
abbrev SSs (G : Gm) (X : Cx) (Wx : WX) (sts : List Stmt) (f : SemS) : Prop := PSs X sts (tS G Wx f)
section
variable {G : Gm} {X : Cx} {k : Nat} {Wx : WX} {σ : L2.St} {w w' : Wd} {ρ : Rho} {Dn Dn' : Ends}
theorem PostS.le {r : ResS} (h : PostS G Wx w r Dn) (l : Le w w') : PostS G Wx w' r Dn := by
  cases r with
  | ok f ρ Wo => exact fun w2 l2 g e => h w2 (l.trans l2) g e
  | exc c fs ρ Wo => exact fun w2 σ dd l2 g e er rp => h w2 σ dd (l.trans l2) g e er rp
  | bad => exact h
theorem PostS.mono {r : ResS} (h : PostS G Wx w r Dn) (h1 : ∀ σ H, Dn.nx σ H → Dn'.nx σ H) (h2 : ∀ v H, Dn.rt v H → Dn'.rt v H) (h3 : ∀ σ H, Dn.bk σ H → Dn'.bk σ H) (h4 : ∀ σ H, Dn.ct σ H → Dn'.ct σ H) : PostS G Wx w r Dn' := by
  cases r with
  | ok f ρ Wo =>
    intro w2 l2 g e
    have q := h w2 l2 g e
    cases f with
    | nx => exact fun σ er => h1 _ _ (q σ er)
    | bk => exact fun σ er => h3 _ _ (q σ er)
    | ct => exact fun σ er => h4 _ _ (q σ er)
    | rt d => exact fun v r => h2 _ _ (q v r)
  | exc c fs ρ Wo => exact h
  | bad => exact h
/-- an expression, then the rest -/
theorem PostS.lift {α β : Type} {R : Wd → α → β → Prop} {r : Res α} {kk : α → List O → ResS} (h : PostS G Wx w (liftS r ρ kk) Dn) (er : ER G w ρ σ) :
    Post G R Wx σ w r (fun v H1 => ∃ w1 a, w1.H = H1 ∧ Le w w1 ∧ Good G w1 ∧ R w1 a v ∧ PostS G Wx w1 (kk a w1.W) Dn) := by
  cases r with
  | ok a Wo => exact fun w1 v l g e rp => ⟨w1, a, rfl, l, g, rp, by rw [e]; exact PostS.le h l⟩
  | exc c fs Wo => exact fun w1 dd l g e rp => h w1 σ dd l g e (er.mono l) rp
  | bad => exact h
theorem PostS.thn {r : ResS} {g : SemS} (h : PostS G Wx w (r.thn g) Dn) : PostS G Wx w r { Dn with nx := tS G Wx g Dn } := by
  cases r with
  | ok f ρ Wo =>
    cases f with
    | nx => exact fun w1 l g e σ er => ⟨w1, ρ, rfl, g, er, by rw [e]; exact PostS.le h l⟩
    | bk => exact h
    | ct => exact h
    | rt d => exact h
  | exc c fs ρ Wo => exact h
  | bad => exact h
theorem PostS.nx (h : PostS G Wx w (.ok .nx ρ w.W) Dn) (g : Good G w) (er : ER G w ρ σ) : Dn.nx σ w.H := h w (Le.refl w) g rfl σ er
theorem PostS.rt {d : Vl} {v : V} (h : PostS G Wx w (.ok (.rt d) ρ w.W) Dn) (g : Good G w) (r : RepV G w d v) : Dn.rt v w.H := h w (Le.refl w) g rfl v r
/-- an expression's reading from a statement's -/
theorem lift1 {α β : Type} {R : Wd → α → β → Prop} {f : Sem α} {kk : Rho → α → List O → ResS} {H : Hp} {r : β → Hp → Prop} (hh : tS G Wx (fun ρ W => liftS (f ρ W) ρ (kk ρ)) Dn σ H)
    (hr : ∀ ρ w v a, Good G w → ER G w ρ σ → R w a v → PostS G Wx w (kk ρ a w.W) Dn → r v w.H) : tV G R Wx f σ H r := by
  obtain ⟨w, ρ, rfl, gd, er, p⟩ := hh
  refine ⟨w, ρ, rfl, gd, er, (PostS.lift (R := R) p er).mono fun v H1 ⟨w1, a, e1, l1, g1, r1, p1⟩ => ?_⟩
  subst e1
  exact hr ρ w1 v a g1 (er.mono l1) r1 p1

/-! ### blocks -/
def sNx : SemS := fun ρ W => .ok .nx ρ W
def sSeq (f g : SemS) : SemS := fun ρ W => (f ρ W).thn g
theorem ss_nil : SSs G X Wx [] sNx := PSs.imp pss_nil fun D σ H ⟨w, ρ, e, g, er, p⟩ => by subst e; exact p.nx g er
theorem ss_cons {st : Stmt} {rest : List Stmt} {f g : SemS} (h : SS G X Wx st f) (hs : SSs G X Wx rest g) : SSs G X Wx (st :: rest) (sSeq f g) :=
  PSs.imp (pss_cons h hs) fun D σ H ⟨w, ρ, e, g, er, p⟩ => ⟨w, ρ, e, g, er, p.thn⟩
theorem ss_one {st : Stmt} {f : SemS} (h : SS G X Wx st f) : SSs G X Wx [st] f := pss_one h
def sBk : SemS := fun ρ W => .ok .bk ρ W
def sCt : SemS := fun ρ W => .ok .ct ρ W
theorem ss_pass {pos} : SS G X Wx (.Pass pos) sNx := PS.imp ps_pass fun D σ H ⟨w, ρ, e, g, er, p⟩ => by subst e; exact p.nx g er
theorem ss_break {pos} : SS G X Wx (.Break pos) sBk := PS.imp ps_break fun D σ H ⟨w, ρ, e, g, er, p⟩ => by subst e; exact p w (Le.refl w) g rfl σ er
theorem ss_continue {pos} : SS G X Wx (.Continue pos) sCt := PS.imp ps_continue fun D σ H ⟨w, ρ, e, g, er, p⟩ => by subst e; exact p w (Le.refl w) g rfl σ er
def sExpr (f : Sem Vl) : SemS := fun ρ W => liftS (f ρ W) ρ fun _ W1 => .ok .nx ρ W1
theorem ss_expr {e : Expr} {f : Sem Vl} {pos : Pos} (h : SE G X Wx e f) (hs : swapsWith e none pos.line X.env = pure false := by rfl) : SS G X Wx (.Expr e pos) (sExpr f) :=
  PS.imp (ps_expr h hs) fun D σ H hh => lift1 (R := RepV G) hh fun ρ w v a g er r p => p.nx g er
def sRet (f : Sem Vl) : SemS := fun ρ W => liftS (f ρ W) ρ fun d W1 => .ok (.rt d) ρ W1
theorem ss_ret {e : Expr} {f : Sem Vl} {pos : Pos} (h : SE G X Wx e f) : SS G X Wx (.Return (some e) pos) (sRet f) :=
  PS.imp (ps_ret h) fun D σ H hh => lift1 (R := RepV G) hh fun ρ w v a g er r p => p.rt g r
def sIf (t : Sem Bool) (f g : SemS) : SemS := fun ρ W => liftS (t ρ W) ρ fun b W1 => if b then f ρ W1 else g ρ W1
theorem ss_if {c : Expr} {a b : List Stmt} {t : Sem Bool} {f g : SemS} {pos : Pos} (hc : ST G X Wx c t) (ha : SSs G X Wx a f) (hb : SSs G X Wx b g) : SS G X Wx (.If c a b pos) (sIf t f g) :=
  PS.imp (ps_if hc ha hb) fun D σ H hh => lift1 (R := RB) hh fun ρ w v a gd er r p => by
    cases r
    cases v with
    | true => rw [if_pos rfl]; exact ⟨w, ρ, rfl, gd, er, p⟩
    | false => rw [if_neg Bool.false_ne_true]; exact ⟨w, ρ, rfl, gd, er, p⟩
def sSet (i : Nat) (f : Sem Vl) : SemS := fun ρ W => liftS (f ρ W) ρ fun d W1 => .ok .nx (ρ.set i (some d)) W1
theorem ss_set {i : Nat} {x : Str} {e : Expr} {f : Sem Vl} {pos pos' : Pos} (vc : VC G X k Wx) (h : SE G X Wx e f) (hi : X.N[i]? = some x := by rfl) (hx : Loc X.env.scope x := by first | exact .inl rfl | exact .inr rfl)
    (hs : swapsWith e (some (.Name x pos')) pos.line X.env = pure false := by rfl) (hf : X.fn x = true ∨ X.env.scope.names.lookup x = some .local := by first | exact .inl rfl | exact .inr rfl | assumption) :
    SS G X Wx (.Assign [.Name x pos'] e pos) (sSet i f) :=
  PS.imp (ps_set vc.nd hi hx h hs hf) fun D σ H hh => lift1 (R := RepV G) hh fun ρ w v a g er r p => p.nx g (er.set r)
/-- a, b = x, y of plain locals -/
def sPar (i j : Nat) (f : Sem (List Vl)) : SemS := fun ρ W => liftS (f ρ W) ρ fun ds W1 => match ds with
  | [a, b] => .ok .nx ((ρ.set i (some a)).set j (some b)) W1
  | _ => .bad
theorem ss_par {i j : Nat} {x y : Str} {a b : Expr} {f : Sem (List Vl)} {px py pt pos : Pos} {kt k2 pt2} (vc : VC G X k Wx) (h : SA G X Wx [a, b] f) (hi : X.N[i]? = some x := by rfl) (hj : X.N[j]? = some y := by rfl) (hij : i ≠ j := by decide)
    (hx : X.env.scope.names.lookup x = some .local := by rfl) (hy : X.env.scope.names.lookup y = some .local := by rfl)
    (hw : swappedStores [.Tuple [.Name x px, .Name y py] kt pt] (.Tuple [a, b] k2 pt2) X.env = pure (some [x, y]) := by rfl)
    (hs : swapsWithSole [.Tuple [.Name x px, .Name y py] kt pt] (.Tuple [a, b] k2 pt2) pos.line X.env = pure false := by rfl) :
    SS G X Wx (.Assign [.Tuple [.Name x px, .Name y py] kt pt] (.Tuple [a, b] k2 pt2) pos) (sPar i j f) :=
  PS.imp (ps_par vc.calm vc.nd hi hj hij hx hy h hw hs) fun D σ H hh => lift1 (R := RepVs G) hh fun ρ w v a g er r p => by
    split at p
    · obtain ⟨v1, r1, rfl, q1, v2, r2, rfl, q2, rfl⟩ := r
      exact ⟨v1, v2, rfl, p.nx g ((er.set q1).set q2)⟩
    · exact p.elim
def sPar3 (i j l : Nat) (f : Sem (List Vl)) : SemS := fun ρ W => liftS (f ρ W) ρ fun ds W1 => match ds with
  | [a, b, c] => .ok .nx (((ρ.set i (some a)).set j (some b)).set l (some c)) W1
  | _ => .bad

/-! ### targets of names -/
inductive TgP where
  | nm (i : Nat) | tp (ts : List TgP)
mutual
def bindP : TgP → D → Rho → Option Rho
  | .nm i, d, ρ => some (ρ.set i (some (.d d)))
  | .tp ts, .tup ds, ρ => bindPs ts ds ρ
  | .tp _, _, _ => none
def bindPs : List TgP → List D → Rho → Option Rho
  | [], [], ρ => some ρ
  | t :: ts, d :: ds, ρ => match bindP t d ρ with
    | some ρ' => bindPs ts ds ρ'
    | none => none
  | _, _, _ => none
end
mutual
def slotsP : TgP → List Nat
  | .nm i => [i]
  | .tp ts => slotsPs ts
def slotsPs : List TgP → List Nat
  | [] => []
  | t :: ts => slotsP t ++ slotsPs ts
end
mutual
def gRd (K : PySem.W.Frag) : TgP → TG
  | .nm i => gName i
  | .tp ts => gTup K ts.length (gRds K ts)
def gRds (K : PySem.W.Frag) : List TgP → TGs
  | [] => gNil
  | t :: ts => gCons (gRd K t) (gRds K ts)
end
abbrev SG (X : Cx) (tg : Expr) (p : TgP) : Prop := PG X tg (gRd X.K p)
abbrev SGs (X : Cx) (tgs : List Expr) (ps : List TgP) : Prop := PGs X tgs (gRds X.K ps)
theorem sg_name {i : Nat} {x : Str} {pos : Pos} (hN : X.N.Nodup) (hi : X.N[i]? = some x := by rfl) (hx : Loc X.env.scope x := by first | exact .inl rfl | exact .inr rfl) (hf : X.fn x = true ∨ X.env.scope.names.lookup x = some .local := by first | exact .inl rfl | exact .inr rfl | assumption) :
    SG X (.Name x pos) (.nm i) := by
  show PG X _ (gRd X.K (.nm i))
  unfold gRd
  exact pg_name hN hi hx hf
theorem sg_nil : SGs X [] [] := by
  show PGs X _ (gRds X.K [])
  unfold gRds
  exact pgs_nil
theorem sg_cons {e : Expr} {es : List Expr} {p : TgP} {ps : List TgP} (h : SG X e p) (hs : SGs X es ps) (hst : (assignEach (e :: es) X.env).map (·.2) = assign e X.env :: (assignEach es X.env).map (·.2) := by rfl) : SGs X (e :: es) (p :: ps) := by
  show PGs X _ (gRds X.K (p :: ps))
  unfold gRds
  exact pgs_cons h hs hst
theorem sg_tup {es : List Expr} {j : Nat} {ps : List TgP} {pos : Pos} (hc : X.calm = true) (h : SGs X es ps) (hn : (assignEach es X.env).length = ps.length := by rfl) (hst : (assignEach es X.env).findIdx? (·.1) = none := by rfl) : SG X (.Tuple es j pos) (.tp ps) := by
  show PG X _ (gRd X.K (.tp ps))
  unfold gRd
  exact pg_tup hc h hn hst
theorem wipe_set (i : Nat) (x : Option V) : ∀ (σ : L2.St) (vs : List Nat), i ∈ vs → wipe (σ.set i x) vs = wipe σ vs
  | σ, [], h => by simp at h
  | σ, v :: vs, h => by
    unfold wipe
    by_cases hv : i = v
    · subst hv
      by_cases hm : i ∈ vs
      · rw [wipe_set i x σ vs hm]
      · have : ∀ (σ : L2.St) (vs : List Nat), i ∉ vs → wipe (σ.set i x) vs = (wipe σ vs).set i x := by
          intro σ vs
          induction vs with
          | nil => intro _; rfl
          | cons u us ih =>
            intro hn
            unfold wipe
            rw [ih fun z => hn (List.mem_cons_of_mem _ z), List.set_comm _ _ (fun z => hn (by rw [z]; exact List.mem_cons_self))]
        rw [this σ vs hm, List.set_set]
    · rw [wipe_set i x σ vs ((List.mem_cons.mp h).resolve_left hv)]
mutual
theorem bind_rd {K : PySem.W.Frag} (gd : Good G w) : ∀ (p : TgP) (d : D) (v : V) (ρ ρ' : Rho) (σ : L2.St) (Q : L2.St → Hp → Prop), bindP p d ρ = some ρ' → Rep G w d v → ER G w ρ σ →
    (∀ σ', ER G w ρ' σ' → (∀ vs : List Nat, (∀ i ∈ slotsP p, i ∈ vs) → wipe σ' vs = wipe σ vs) → Q σ' w.H) → gRd K p v σ w.H Q
  | .nm i, d, v, ρ, ρ', σ, Q, e, r, er, h => by
    unfold bindP at e
    cases e
    unfold gRd
    exact h _ (er.set (d := .d d) r) fun vs hi => wipe_set i _ σ vs (hi i (by unfold slotsP; exact List.mem_singleton.mpr rfl))
  | .tp ts, d, v, ρ, ρ', σ, Q, e, r, er, h => by
    cases d with
    | tup ds =>
      unfold bindP at e
      obtain ⟨a, vs, rfl, hs, q⟩ := r
      unfold gRd
      have hl : ds.length = ts.length := binds_len ts ds ρ ρ' e
      refine ⟨a, vs, rfl, .of (gd.shN hs rfl), by rw [q.length]; exact hl, ?_⟩
      exact binds_rd gd ts ds vs ρ ρ' σ Q e q er fun σ' er' hw => h σ' er' fun us hi => hw us fun i hm => hi i (by unfold slotsP; exact hm)
    | _ => unfold bindP at e; cases e
theorem binds_rd {K : PySem.W.Frag} (gd : Good G w) : ∀ (ts : List TgP) (ds : List D) (vs : List V) (ρ ρ' : Rho) (σ : L2.St) (Q : L2.St → Hp → Prop), bindPs ts ds ρ = some ρ' → Reps G w ds vs → ER G w ρ σ →
    (∀ σ', ER G w ρ' σ' → (∀ vs : List Nat, (∀ i ∈ slotsPs ts, i ∈ vs) → wipe σ' vs = wipe σ vs) → Q σ' w.H) → gRds K ts vs σ w.H Q
  | [], [], vs, ρ, ρ', σ, Q, e, r, er, h => by
    unfold bindPs at e
    cases e
    unfold gRds
    exact ⟨r, h σ er fun _ _ => rfl⟩
  | t :: ts, d :: ds, vs, ρ, ρ', σ, Q, e, r, er, h => by
    unfold bindPs at e
    split at e
    · rename_i ρ1 e1
      obtain ⟨v, vr, rfl, r1, r2⟩ := r
      unfold gRds
      refine ⟨v, vr, rfl, bind_rd gd t d v ρ ρ1 σ _ e1 r1 er fun σ1 er1 hw1 => ?_⟩
      refine binds_rd gd ts ds vr ρ1 ρ' σ1 Q e r2 er1 fun σ2 er2 hw2 => h σ2 er2 fun us hi => ?_
      rw [hw2 us fun i hm => hi i (by unfold slotsPs; exact List.mem_append_right _ hm), hw1 us fun i hm => hi i (by unfold slotsPs; exact List.mem_append_left _ hm)]
    · cases e
  | [], _ :: _, _, _, _, _, _, e, _, _, _ => by unfold bindPs at e; cases e
  | _ :: _, [], _, _, _, _, _, e, _, _, _ => by unfold bindPs at e; cases e
theorem binds_len : ∀ (ts : List TgP) (ds : List D) (ρ ρ' : Rho), bindPs ts ds ρ = some ρ' → ds.length = ts.length
  | [], [], _, _, _ => rfl
  | t :: ts, d :: ds, ρ, ρ', e => by
    unfold bindPs at e
    split at e
    · rename_i ρ1 e1
      rw [List.length_cons, List.length_cons, binds_len ts ds ρ1 ρ' e]
    · cases e
  | [], _ :: _, _, _, e => by unfold bindPs at e; cases e
  | _ :: _, [], _, _, e => by unfold bindPs at e; cases e
end
/-- a, b = e, a tuple -/
def sTup (p : TgP) (f : Sem Vl) : SemS := fun ρ W => liftS (f ρ W) ρ fun d W1 => match d with
  | .d x => match bindP p x ρ with
    | some ρ' => .ok .nx ρ' W1
    | none => .bad
  | .o _ => .bad
theorem ss_tup {tg e : Expr} {p : TgP} {f : Sem Vl} {pos : Pos} (h : SE G X Wx e f) (hg : SG X tg p) (hs : swapsWithSole [tg] e pos.line X.env = pure false := by rfl) (hw : swappedStores [tg] e X.env = pure none := by rfl)
    (h1 : (assignEach [tg] X.env).map (·.2) = [assign tg X.env] := by rfl) : SS G X Wx (.Assign [tg] e pos) (sTup p f) :=
  PS.imp (ps_asg h hg hs hw h1) fun D σ H hh => lift1 (R := RepV G) hh fun ρ w v a g er r p => by
    split at p
    · split at p
      · rename_i ρ' e
        exact bind_rd g _ _ v ρ ρ' σ _ e r er fun σ' er' _ => p.nx g er'
      · exact p.elim
    · exact p.elim
/-- a mutable object is data from now on -/
def frzO : O → Option D
  | .lst xs => some (.lst xs)
  | .dic t k => some (.dic t k)
  | _ => none
def sFrz (i : Nat) (f : SemS) : SemS := fun ρ W => match ρ[i]? with
  | some (some (.o j)) => match W[j]? with
    | some x => match frzO x with
      | some d => f (ρ.set i (some (.d d))) (W.set j .dead)
      | none => .bad
    | none => .bad
  | _ => .bad
end
end VL
set_option Elab.async false
set_option linter.all false
set_option maxRecDepth 100000
set_option maxHeartbeats 4000000
namespace VL
open PySem PySem.Spec PyProof.Rows L2
section
variable {G : Gm} {X : Cx} {k : Nat} {Wx : WX} {σ : L2.St} {w w' : Wd} {ρ : Rho} {Dn : Ends}
/-! ### ghost: freezing -/
theorem good_frz {i : Nat} {x : O} {o : HO} (g : Good G w) (e0 : w.W[i]? = some x) (al : x.alive = true) (ho : w.H (w.μ i) = some o) (hn : ∀ ps, o ≠ .tbl ps) :
    Le w { w with Hs := upd w.Hs (w.μ i) o, W := w.W.set i .dead } ∧ Good G { w with Hs := upd w.Hs (w.μ i) o, W := w.W.set i .dead } := by
  have hi : i < w.W.length := (List.getElem?_eq_some_iff.mp e0).1
  have hs : w.Hs (w.μ i) = none := (g.ob i x e0 al).1
  have l : Le w { w with Hs := upd w.Hs (w.μ i) o, W := w.W.set i .dead } := by
    refine ⟨fun a u h => ?_, by show _ ≤ (w.W.set i .dead).length; rw [List.length_set]; exact Nat.le_refl _, fun _ _ => rfl, fun a u h _ _ => h, fun a u h _ h1 h2 => ?_, fun j h1 h2 => ?_, fun _ h => h⟩
    · show upd w.Hs _ o a = _
      rw [upd_ne (fun z => by rw [z, hs] at h; cases h)]; exact h
    · show upd w.Hs _ o a = _
      rw [upd_ne (Ne.symm (h2 i hi))]; exact h1
    · have h2' : j < (w.W.set i .dead).length := h2
      rw [List.length_set] at h2'
      exact absurd h2' (Nat.not_lt.mpr h1)
  have wk : ∀ j y, (w.W.set i .dead)[j]? = some y → y.alive = true → j ≠ i ∧ w.W[j]? = some y := fun j y e a => by
    by_cases hj : j = i
    · subst hj
      rw [List.getElem?_set_self hi] at e
      cases e; cases a
    · rw [List.getElem?_set_ne (Ne.symm hj)] at e
      exact ⟨hj, e⟩
  refine ⟨l, fun a u h => ?_, fun j y e a => ?_, fun j j' y z e1 e2 a1 a2 em => ?_, g.tb, fun a ps h => ?_, fun j hj => ?_⟩
  · have h' : upd w.Hs (w.μ i) o a = some u := h
    by_cases ha : a = w.μ i
    · rw [ha, upd_same] at h'; cases h'; rw [ha]; exact .inl ho
    · rw [upd_ne ha] at h'; exact g.sh a u h'
  · obtain ⟨hj, e'⟩ := wk j y e a
    obtain ⟨h1, h2⟩ := g.ob j y e' a
    have ne : w.μ j ≠ w.μ i := fun z => hj (g.inj j i y x e' e0 a al z)
    exact ⟨by show upd w.Hs _ o (w.μ j) = _; rw [upd_ne ne]; exact h1, h2.mono l rfl⟩
  · exact g.inj j j' y z (wk j y e1 a1).2 (wk j' z e2 a2).2 a1 a2 em
  · have h' : upd w.Hs (w.μ i) o a = some (.tbl ps) := h
    by_cases ha : a = w.μ i
    · rw [ha, upd_same] at h'; exact hn ps (Option.some.inj h')
    · rw [upd_ne ha] at h'; exact g.nt a ps h'
  · have hj' : j < (w.W.set i .dead).length := hj
    rw [List.length_set] at hj'
    exact g.th j hj'
theorem rep_frz {i : Nat} {x : O} {d : D} (g : Good G w) (e0 : w.W[i]? = some x) (hf : frzO x = some d) : ∃ o, w.H (w.μ i) = some o ∧ (∀ ps, o ≠ .tbl ps) ∧ x.alive = true ∧
    Rep G { w with Hs := upd w.Hs (w.μ i) o, W := w.W.set i .dead } d (.ref (w.μ i)) := by
  cases x with
  | lst xs =>
    cases hf
    obtain ⟨hs, vs, h1, h2⟩ := g.ob i _ e0 rfl
    have l := (good_frz g e0 rfl h1 (fun _ z => by cases z)).1
    exact ⟨_, h1, fun _ z => by (cases z), rfl, _, vs, rfl, upd_same, Reps.mono l _ _ h2⟩
  | dic t kvs =>
    cases hf
    obtain ⟨hs, q⟩ := g.ob i _ e0 rfl
    cases t with
    | false =>
      obtain ⟨kv, h1, h2⟩ := q
      have l := (good_frz g e0 rfl h1 (fun _ z => by cases z)).1
      exact ⟨_, h1, fun _ z => by (cases z), rfl, _, kv, rfl, upd_same, RepK.mono l _ _ h2⟩
    | true =>
      obtain ⟨kv, h1, h2⟩ := q
      have l := (good_frz g e0 rfl h1 (fun _ z => by cases z)).1
      exact ⟨_, h1, fun _ z => by (cases z), rfl, _, kv, rfl, upd_same, RepT.mono l _ _ h2⟩
  | _ => cases hf
theorem ss_frz {i : Nat} {sts : List Stmt} {f : SemS} (h : SSs G X Wx sts f) : SSs G X Wx sts (sFrz i f) := PSs.imp h fun D σ H ⟨w, ρ, e, g, er, p⟩ => by
  subst e
  unfold sFrz at p
  split at p
  · rename_i j e1
    split at p
    · rename_i x e2
      split at p
      · rename_i d e3
        obtain ⟨v, ev, hj, rv⟩ := er.get e1
        obtain ⟨o, ho, hn, al, rp⟩ := rep_frz g e2 e3
        obtain ⟨l, gd⟩ := good_frz g e2 al ho hn
        refine ⟨{ w with Hs := upd w.Hs (w.μ j) o, W := w.W.set j .dead }, ρ.set i (some (.d d)), rfl, gd, ?_, PostS.le p l⟩
        have er' := er.mono l
        refine ⟨by rw [List.length_set]; exact er'.1, fun a y ea => ?_⟩
        by_cases ha : i = a
        · subst ha
          rw [List.getElem?_set_self (List.getElem?_eq_some_iff.mp e1).1] at ea
          cases ea
          exact ⟨v, ev, by rw [rv]; exact rp⟩
        · rw [List.getElem?_set_ne ha] at ea
          exact er'.2 a y ea
      · exact p.elim
    · exact p.elim
  · exact p.elim

/-! ### iterables -/
def ItOk (G : Gm) (w0 : Wd) (J : It) (ds : List D) : Prop := ∀ w, Le w0 w → Good G w → (∀ i, i < ds.length → J.go i w.H) ∧ J.stop ds.length w.H ∧
  ∀ i x H', J.yld i w.H x H' → ∀ d, ds[i]? = some d → ∃ w', Le w w' ∧ Good G w' ∧ w'.H = H' ∧ w'.W = w.W ∧ Rep G w' d x
def PostI (G : Gm) (Wx : WX) (σ : L2.St) (w : Wd) (r : Res (List D)) (R : It → Hp → Prop) : Prop := match r with
  | .ok ds Wo => ∀ w' J, Le w w' → Good G w' → w'.W = Wo → ItOk G w' J ds → R J w'.H
  | .exc c fs Wo => ∀ w' dd, Le w w' → Good G w' → w'.W = Wo → RepX G w' dd c fs → Wx (.ref (G.ca c)) (some dd) σ w'.H
  | .bad => False
def tI (G : Gm) (Wx : WX) (f : Sem (List D)) : TI := fun σ H R => ∃ w ρ, w.H = H ∧ Good G w ∧ ER G w ρ σ ∧ PostI G Wx σ w (f ρ w.W) R
abbrev SI (G : Gm) (X : Cx) (Wx : WX) (tg it : Expr) (f : Sem (List D)) : Prop := PI X tg it (tI G Wx f)
theorem PI.imp {tg it : Expr} {t t' : TI} (h : PI X tg it t) (k : ∀ σ H R, t' σ H R → t σ H R) : PI X tg it t' := ⟨fun pins s σ H R I q => h.run pins s σ H R I (k σ H R q)⟩
/-- a value's iteration from the value's run -/
theorem it1 {α β : Type} {R : Wd → α → β → Prop} {f : Sem α} {kk : α → List O → Res (List D)} {H : Hp} {Q : It → Hp → Prop} {r : β → Hp → Prop} (hh : tI G Wx (fun ρ W => (f ρ W).bind kk) σ H Q)
    (hr : ∀ ρ w v a, Good G w → ER G w ρ σ → R w a v → PostI G Wx σ w (kk a w.W) Q → r v w.H) : tV G R Wx f σ H r := by
  obtain ⟨w, ρ, rfl, gd, er, p⟩ := hh
  refine ⟨w, ρ, rfl, gd, er, ?_⟩
  have p : PostI G Wx σ w ((f ρ w.W).bind kk) Q := p
  cases e : f ρ w.W with
  | ok a Wo =>
    rw [e] at p
    intro w' v l g eW rp
    refine hr ρ w' v a g (er.mono l) rp ?_
    rw [eW]
    have p' : PostI G Wx σ w (kk a Wo) Q := p
    cases e2 : kk a Wo with
    | ok ds W2 => rw [e2] at p'; exact fun w2 J l2 g2 eW2 q => p' w2 J (l.trans l2) g2 eW2 q
    | exc c fs W2 => rw [e2] at p'; exact fun w2 dd l2 g2 eW2 q => p' w2 dd (l.trans l2) g2 eW2 q
    | bad => rw [e2] at p'; exact p'
  | exc c fs Wo => rw [e] at p; exact p
  | bad => rw [e] at p; exact p
/-- the items of a list or tuple that stays -/
def itemsS (d : Vl) (W : List O) : Res (List D) := match d with
  | .d (.lst ds) => .ok ds W
  | _ => .bad
def itemsT (d : Vl) (W : List O) : Res (List D) := match d with
  | .d (.tup ds) => .ok ds W
  | _ => .bad
theorem itok_list {a : Addr} {vs : List V} {ds : List D} (hs : w.Hs a = some (.lst vs)) (r : Reps G w ds vs) {K : PySem.W.Frag} : ItOk G w (Itl K a) ds := fun w1 l g => by
  have h1 : w1.H a = some (.lst vs) := g.shN (l.hs _ _ hs) rfl
  have r1 := Reps.mono l _ _ r
  have ln := r1.length
  refine ⟨fun i hi => ⟨vs, vs[i]'(by omega), .of h1, List.getElem?_eq_getElem _⟩, ⟨vs, .of h1, by omega⟩, fun i x H' hy d hd => ?_⟩
  obtain ⟨rfl, hf⟩ := hy
  obtain ⟨v, e1, e2⟩ := r1.get hd
  have := hf vs (.of h1)
  rw [e1] at this; cases this
  exact ⟨w1, Le.refl w1, g, rfl, rfl, e2⟩
theorem itok_tup {a : Addr} {vs : List V} {ds : List D} (hs : w.Hs a = some (.tup vs)) (r : Reps G w ds vs) {K : PySem.W.Frag} : ItOk G w (Itt K a) ds := fun w1 l g => by
  have h1 : w1.H a = some (.tup vs) := g.shN (l.hs _ _ hs) rfl
  have r1 := Reps.mono l _ _ r
  have ln := r1.length
  refine ⟨fun i hi => ⟨vs, vs[i]'(by omega), .of h1, List.getElem?_eq_getElem _⟩, ⟨vs, .of h1, by omega⟩, fun i x H' hy d hd => ?_⟩
  obtain ⟨rfl, hf⟩ := hy
  obtain ⟨v, e1, e2⟩ := r1.get hd
  have := hf vs (.of h1)
  rw [e1] at this; cases this
  exact ⟨w1, Le.refl w1, g, rfl, rfl, e2⟩
def iList (f : Sem Vl) : Sem (List D) := fun ρ W => (f ρ W).bind itemsS
def iTup (f : Sem Vl) : Sem (List D) := fun ρ W => (f ρ W).bind itemsT
theorem si_list {tg e : Expr} {f : Sem Vl} (h : SE G X Wx e f) : SI G X Wx tg e (iList f) := PI.imp (pi_list h) fun σ H R hh => it1 (R := RepV G) hh fun ρ w v a g er r p => by
  unfold itemsS at p
  split at p
  · rename_i ds
    obtain ⟨a, vs, rfl, hs, q⟩ := r
    exact ⟨a, rfl, ⟨vs, .of (g.shN hs rfl)⟩, p w _ (Le.refl w) g rfl (itok_list hs q)⟩
  · exact p.elim
theorem si_tup {tg e : Expr} {f : Sem Vl} (h : SE G X Wx e f) : SI G X Wx tg e (iTup f) := PI.imp (pi_tup h) fun σ H R hh => it1 (R := RepV G) hh fun ρ w v a g er r p => by
  unfold itemsT at p
  split at p
  · rename_i ds
    obtain ⟨a, vs, rfl, hs, q⟩ := r
    exact ⟨a, rfl, ⟨vs, .of (g.shN hs rfl)⟩, p w _ (Le.refl w) g rfl (itok_tup hs q)⟩
  · exact p.elim
/-- range -/
def rngD (lo hi : Int) : List D := (List.range (hi - lo).toNat).map fun i => .int (lo + (i : Nat))
theorem itok_rng {lo hi : Int} : ItOk G w (Itr lo (hi - lo).toNat) (rngD lo hi) := fun w1 l g => by
  have ln : (rngD lo hi).length = (hi - lo).toNat := by unfold rngD; rw [List.length_map, List.length_range]
  refine ⟨fun i h => by rw [ln] at h; exact h, by rw [ln]; exact Nat.le_refl _, fun i x H' hy d hd => ?_⟩
  obtain ⟨rfl, rfl⟩ := hy
  unfold rngD at hd
  rw [List.getElem?_map] at hd
  obtain ⟨j, e1, e2⟩ := Option.map_eq_some_iff.mp hd
  rw [List.getElem?_range (by have := (List.getElem?_eq_some_iff.mp e1).1; rw [List.length_range] at this; exact this)] at e1
  cases e1; subst e2
  exact ⟨w1, Le.refl w1, g, rfl, rfl, rfl⟩
def rngS1 (as : List Vl) (W : List O) : Res (List D) := match as with
  | [.d (.int j)] => if -(2 ^ 62) ≤ j ∧ j < 2 ^ 62 then .ok (rngD 0 j) W else .bad
  | _ => .bad
def rngS2 (as : List Vl) (W : List O) : Res (List D) := match as with
  | [.d (.int i), .d (.int j)] => if -(2 ^ 62) ≤ i ∧ i < 2 ^ 62 ∧ -(2 ^ 62) ≤ j ∧ j < 2 ^ 62 then .ok (rngD i j) W else .bad
  | _ => .bad
def iRng1 (f : Sem (List Vl)) : Sem (List D) := fun ρ W => (f ρ W).bind rngS1
def iRng2 (f : Sem (List Vl)) : Sem (List D) := fun ρ W => (f ρ W).bind rngS2
theorem si_rng1 {tg a : Expr} {f : Sem (List Vl)} {p pos : Pos} (hg : Gl X "range") (hm : X.mg "range" = none) (h : SA G X Wx [a] f) (hs : starEach [a] X.env = [(false, eval a X.env)] := by rfl) : SI G X Wx tg (.Call (.Name "range" p) [a] [] pos) (iRng1 f) :=
  PI.imp (pi_range1 hg hm h hs) fun σ H R hh => it1 (R := RepVs G) hh fun ρ w v a g er r p => by
    unfold rngS1 at p
    split at p
    · rename_i j
      split at p
      · rename_i hb
        obtain ⟨v1, r1, rfl, q1, rfl⟩ := r
        obtain rfl : v1 = V.int j := q1
        refine ⟨j, rfl, hb.1, hb.2, p w _ (Le.refl w) g rfl ?_⟩
        have := itok_rng (G := G) (w := w) (lo := 0) (hi := j)
        rw [Int.sub_zero] at this
        exact this
      · exact p.elim
    · exact p.elim
theorem si_rng2 {tg a b : Expr} {f : Sem (List Vl)} {p pos : Pos} (hg : Gl X "range") (hm : X.mg "range" = none) (h : SA G X Wx [a, b] f) (hs : starEach [a, b] X.env = [(false, eval a X.env), (false, eval b X.env)] := by rfl) (hs2 : starEach [b] X.env = [(false, eval b X.env)] := by rfl) :
    SI G X Wx tg (.Call (.Name "range" p) [a, b] [] pos) (iRng2 f) :=
  PI.imp (pi_range2 hg hm h hs hs2) fun σ H R hh => it1 (R := RepVs G) hh fun ρ w v a g er r p => by
    unfold rngS2 at p
    split at p
    · rename_i i j
      split at p
      · rename_i hb
        obtain ⟨v1, r1, rfl, q1, v2, r2, rfl, q2, rfl⟩ := r
        obtain rfl : v1 = V.int i := q1
        obtain rfl : v2 = V.int j := q2
        exact ⟨i, j, rfl, hb, p w _ (Le.refl w) g rfl itok_rng⟩
      · exact p.elim
    · exact p.elim
/-- enumerate of a list -/
def enumD (ds : List D) : List D := (List.range ds.length).map fun i => .tup [.int (i : Nat), ds.getD i .non]
theorem enumD_get {ds : List D} {i : Nat} {d : D} (h : (enumD ds)[i]? = some d) : ∃ x, ds[i]? = some x ∧ d = .tup [.int (i : Nat), x] := by
  unfold enumD at h
  rw [List.getElem?_map] at h
  obtain ⟨j, e1, e2⟩ := Option.map_eq_some_iff.mp h
  have hi := (List.getElem?_eq_some_iff.mp e1).1
  rw [List.length_range] at hi
  rw [List.getElem?_range hi] at e1
  cases e1; subst e2
  exact ⟨ds[i], List.getElem?_eq_getElem hi, by rw [List.getD_eq_getElem?_getD, List.getElem?_eq_getElem hi]; rfl⟩
theorem new_pair {H' : Hp} {T : Addr} {x y : V} {a b : D} (g : Good G w) (hT : w.H T = none) (e : H' = upd w.H T (.tup [x, y])) (r1 : Rep G w a x) (r2 : Rep G w b y) : ∃ w', Le w w' ∧ Good G w' ∧ w'.H = H' ∧ w'.W = w.W ∧ Rep G w' (.tup [a, b]) (.ref T) :=
  have l := le_new (o := .tup [x, y]) g hT
  ⟨w.new T (.tup [x, y]), l, good_new g hT (fun _ z => by cases z), e.symm, rfl, T, _, rfl, upd_same, Reps.cons (Rep.mono l _ _ r1) (Reps.one (Rep.mono l _ _ r2))⟩
theorem itok_enum {a : Addr} {vs : List V} {ds : List D} (hs : w.Hs a = some (.lst vs)) (r : Reps G w ds vs) {K : PySem.W.Frag} : ItOk G w (Ite K a) (enumD ds) := fun w1 l g => by
  have h1 : w1.H a = some (.lst vs) := g.shN (l.hs _ _ hs) rfl
  have r1 := Reps.mono l _ _ r
  have ln := r1.length
  have le : (enumD ds).length = ds.length := by unfold enumD; rw [List.length_map, List.length_range]
  refine ⟨fun i hi => ⟨vs, vs[i]'(by omega), .of h1, List.getElem?_eq_getElem _⟩, ⟨vs, .of h1, by omega⟩, fun i x H' hy d hd => ?_⟩
  obtain ⟨T, y, rfl, hT, eH, hf⟩ := hy
  obtain ⟨z, e1, rfl⟩ := enumD_get hd
  obtain ⟨v, e2, e3⟩ := r1.get e1
  have := hf vs (.of h1)
  rw [e2] at this; cases this
  exact new_pair g hT eH rfl e3

/-! ### for -/
def forL (p : TgP) (body : SemS) : List D → SemS
  | [] => fun ρ W => .ok .nx ρ W
  | d :: ds => fun ρ W => match bindP p d ρ with
    | some ρ' => (body ρ' W).bind fun f ρ1 W1 => match f with
      | .nx => forL p body ds ρ1 W1
      | .ct => forL p body ds ρ1 W1
      | .bk => .ok .nx ρ1 W1
      | .rt x => .ok (.rt x) ρ1 W1
    | none => .bad
def sFor (p : TgP) (fi : Sem (List D)) (body : SemS) : SemS := fun ρ W => liftS (fi ρ W) ρ fun ds W1 => forL p body ds ρ W1
theorem ss_for {tg it : Expr} {sts : List Stmt} {p : TgP} {fi : Sem (List D)} {f : SemS} {pos : Pos} (vc : VC G X k Wx) (hi : SI G X Wx tg it fi) (hg : SG X tg p) (hb : SSs G X Wx sts f) (hs : ∀ x, foldedSetIterable it X.env x = pure x := by intro _; rfl) :
    SS G X Wx (.For tg it sts [] pos) (sFor p fi f) := by
  refine PS.imp (ps_for vc.po vc.calm hi hg hb hs) fun D σ H hh => ?_
  obtain ⟨w, ρ, rfl, gd, er, q⟩ := hh
  refine ⟨w, ρ, rfl, gd, er, ?_⟩
  unfold sFor at q
  cases e : fi ρ w.W with
  | bad => rw [e] at q; exact q
  | exc c fs Wo => rw [e] at q; exact fun w1 dd l g eW rp => q w1 σ dd l g eW (er.mono l) rp
  | ok ds Wo =>
    rw [e] at q
    intro w1 J l1 g1 eW ok
    have q1 : PostS G Wx w1 (forL p f ds ρ w1.W) D := by rw [eW]; exact PostS.le q l1
    refine ⟨fun i m σ H => m = ds.length - i ∧ i ≤ ds.length ∧ ∃ w2 ρ2, w2.H = H ∧ Le w1 w2 ∧ Good G w2 ∧ ER G w2 ρ2 σ ∧ PostS G Wx w2 (forL p f (ds.drop i) ρ2 w2.W) D, ⟨ds.length, rfl, Nat.zero_le _, w1, ρ, rfl, Le.refl w1, g1, er.mono l1, q1⟩, ?_⟩
    rintro i m σ2 H2 ⟨rfl, hi, w2, ρ2, rfl, l2, g2, er2, q2⟩
    obtain ⟨k1, k2, k3⟩ := ok w2 l2 g2
    by_cases h : i < ds.length
    · refine .inr ⟨k1 i h, fun σ' H' => ∃ w3 ρ3, w3.H = H' ∧ Le w1 w3 ∧ Good G w3 ∧ ER G w3 ρ3 σ' ∧ PostS G Wx w3 (forL p f (ds.drop (i + 1)) ρ3 w3.W) D, fun σ' H' ⟨w3, ρ3, a1, a2, a3, a4, a5⟩ => ⟨ds.length - (i + 1), by omega, rfl, h, w3, ρ3, a1, a2, a3, a4, a5⟩, fun x H' hy => ?_⟩
      have hd : ds[i]? = some ds[i] := List.getElem?_eq_getElem h
      obtain ⟨w3, l3, g3, rfl, eW3, r3⟩ := k3 i x H' hy _ hd
      rw [List.drop_eq_getElem_cons h] at q2
      unfold forL at q2
      cases eb : bindP p ds[i] ρ2 with
      | none => rw [eb] at q2; exact q2.elim
      | some ρ' =>
        rw [eb] at q2
        refine bind_rd g3 p _ x ρ2 ρ' σ2 _ eb r3 (er2.mono l3) fun σ' er' _ => ⟨w3, ρ', rfl, g3, er', ?_⟩
        have q3 := PostS.le q2 l3
        rw [eW3]
        cases ef : f ρ' w2.W with
        | bad => simp only [ef] at q3; exact q3
        | exc c fs ρ4 W4 => simp only [ef] at q3; exact q3
        | ok fl ρ4 W4 =>
          simp only [ef, sbind_ok] at q3
          cases fl with
          | nx => exact fun w4 l4 g4 eW4 σ4 er4 => ⟨w4, ρ4, rfl, (l2.trans l3).trans l4, g4, er4, by rw [eW4]; exact PostS.le q3 l4⟩
          | ct => exact fun w4 l4 g4 eW4 σ4 er4 => ⟨w4, ρ4, rfl, (l2.trans l3).trans l4, g4, er4, by rw [eW4]; exact PostS.le q3 l4⟩
          | bk => exact fun w4 l4 g4 eW4 σ4 er4 => q3 w4 l4 g4 eW4 σ4 er4
          | rt d => exact fun w4 l4 g4 eW4 v rv => q3 w4 l4 g4 eW4 v rv
    · have ei : i = ds.length := by omega
      subst ei
      refine .inl ⟨k2, ?_⟩
      rw [List.drop_length] at q2
      exact q2.nx g2 er2
/-! ### while -/
def whileF (t : Sem Bool) (body : SemS) : Nat → SemS
  | 0 => fun _ _ => .bad
  | n + 1 => fun ρ W => liftS (t ρ W) ρ fun b W1 => if b then (body ρ W1).bind fun f ρ1 W2 => match f with
      | .nx => whileF t body n ρ1 W2
      | .ct => whileF t body n ρ1 W2
      | .bk => .ok .nx ρ1 W2
      | .rt x => .ok (.rt x) ρ1 W2
    else .ok .nx ρ W1
def sWhile (n : Nat) (t : Sem Bool) (body : SemS) : SemS := whileF t body n
theorem ss_while {n : Nat} {c : Expr} {sts : List Stmt} {t : Sem Bool} {f : SemS} {pos : Pos} (vc : VC G X k Wx) (hc : ST G X Wx c t) (hb : SSs G X Wx sts f) : SS G X Wx (.While c sts [] pos) (sWhile n t f) := by
  refine PS.imp (ps_while vc.po hc hb) fun D σ H hh => ?_
  obtain ⟨w, ρ, rfl, gd, er, q⟩ := hh
  refine ⟨fun m σ H => ∃ w2 ρ2, w2.H = H ∧ Good G w2 ∧ ER G w2 ρ2 σ ∧ PostS G Wx w2 (whileF t f m ρ2 w2.W) D, ⟨n, w, ρ, rfl, gd, er, q⟩, ?_⟩
  rintro m σ2 H2 ⟨w2, ρ2, rfl, g2, er2, q2⟩
  cases m with
  | zero => exact q2.elim
  | succ m =>
    unfold whileF at q2
    refine ⟨w2, ρ2, rfl, g2, er2, (PostS.lift (R := RB) q2 er2).mono fun b H3 ⟨w3, a, e3, l3, g3, r3, q3⟩ => ?_⟩
    subst e3
    cases r3
    cases b with
    | false => rw [if_neg Bool.false_ne_true] at q3 ⊢; exact q3.nx g3 (er2.mono l3)
    | true =>
      rw [if_pos rfl] at q3 ⊢
      refine ⟨fun σ H => ∃ w2 ρ2, w2.H = H ∧ Good G w2 ∧ ER G w2 ρ2 σ ∧ PostS G Wx w2 (whileF t f m ρ2 w2.W) D, fun σ' H' hN => ⟨m, Nat.lt_succ_self m, hN⟩, w3, ρ2, rfl, g3, er2.mono l3, ?_⟩
      cases ef : f ρ2 w3.W with
      | bad => simp only [ef] at q3; exact q3
      | exc c fs ρ4 W4 => simp only [ef] at q3; exact q3
      | ok fl ρ4 W4 =>
        simp only [ef, sbind_ok] at q3
        cases fl with
        | nx => exact fun w4 l4 g4 eW4 σ4 er4 => ⟨w4, ρ4, rfl, g4, er4, by rw [eW4]; exact PostS.le q3 l4⟩
        | ct => exact fun w4 l4 g4 eW4 σ4 er4 => ⟨w4, ρ4, rfl, g4, er4, by rw [eW4]; exact PostS.le q3 l4⟩
        | bk => exact fun w4 l4 g4 eW4 σ4 er4 => q3 w4 l4 g4 eW4 σ4 er4
        | rt d => exact fun w4 l4 g4 eW4 v rv => q3 w4 l4 g4 eW4 v rv
end
end VL
set_option Elab.async false
set_option linter.all false
set_option maxRecDepth 100000
set_option maxHeartbeats 4000000
namespace VL
open PySem PySem.Spec PyProof.Rows L2
section
variable {G : Gm} {X : Cx} {k : Nat} {Wx : WX} {σ : L2.St} {w w' : Wd} {ρ : Rho} {Dn : Ends}
/-! ### comprehensions -/
def wipeR (ρ : Rho) : List Nat → Rho
  | [] => ρ
  | v :: vs => (wipeR ρ vs).set v none
theorem er_wipe (er : ER G w ρ σ) : ∀ vs : List Nat, ER G w (wipeR ρ vs) (wipe σ vs)
  | [] => er
  | v :: vs => by
    have ih := er_wipe er vs
    unfold wipeR wipe
    refine ⟨by rw [List.length_set, List.length_set]; exact ih.1, fun i d e => ?_⟩
    by_cases h : v = i
    · subst h
      have hl := (List.getElem?_eq_some_iff.mp e).1
      rw [List.length_set] at hl
      rw [List.getElem?_set_self hl] at e
      cases e
    · rw [List.getElem?_set_ne h] at e ⊢
      exact ih.2 i d e
/-- the items that a comprehension makes -/
def lcL (p : TgP) (t : Sem Bool) (f : Sem Vl) (ρ : Rho) : List D → List O → Res (List D)
  | [], W => .ok [] W
  | d :: ds, W => match bindP p d ρ with
    | some ρ' => (t ρ' W).bind fun b W1 => if b then (f ρ' W1).bind fun v W2 => match pureD v with
        | some y => (lcL p t f ρ ds W2).bind fun ys W3 => .ok (y :: ys) W3
        | none => .bad
      else lcL p t f ρ ds W1
    | none => .bad
def noX {α : Type} (r : Res α) : Res α := match r with
  | .exc _ _ _ => .bad
  | r => r
@[simp] theorem noX_ok {α : Type} (a : α) (W : List O) : noX (.ok a W) = .ok a W := rfl
@[simp] theorem noX_exc {α : Type} (c : Nat) (fs : List D) (W : List O) : (noX (.exc c fs W) : Res α) = .bad := rfl
@[simp] theorem noX_bad {α : Type} : (noX .bad : Res α) = .bad := rfl
/-- with what is made of the items -/
def eLcG (mk : List D → List O → Res Vl) (own : List Nat) (p : TgP) (fi : Sem (List D)) (t : Sem Bool) (f : Sem Vl) : Sem Vl := fun ρ W => (fi ρ W).bind fun ds W1 => (noX (lcL p t f (wipeR ρ own) ds W1)).bind fun ys W2 => if ds.length ≤ sizeLine then mk ys W2 else .bad
def eLc (own : List Nat) (p : TgP) (fi : Sem (List D)) (t : Sem Bool) (f : Sem Vl) : Sem Vl := fun ρ W => (fi ρ W).bind fun ds W1 => (noX (lcL p t f (wipeR ρ own) ds W1)).bind fun ys W2 => if ds.length ≤ sizeLine then .ok (.d (.lst ys)) W2 else .bad
def tTru : Sem Bool := fun _ W => .ok true W
abbrev STs (G : Gm) (X : Cx) (Wx : WX) (ifs : List Expr) (t : Sem Bool) : Prop := PTs X ifs (tT G Wx t)
theorem sts_nil : STs G X Wx [] tTru := ⟨fun pins s σ H Q I ⟨w, ρ, e, g, er, p⟩ => by
  subst e
  exact pts_nil.run pins s σ w.H Q I (p.ret (b := true) g rfl)⟩
theorem sts_one {c : Expr} {t : Sem Bool} (h : ST G X Wx c t) : STs G X Wx [c] t := pts_one h
theorem lc_len {p : TgP} {t : Sem Bool} {f : Sem Vl} {ρ : Rho} : ∀ {ds : List D} {W : List O} {ys : List D} {W' : List O}, lcL p t f ρ ds W = .ok ys W' → ys.length ≤ ds.length
  | [], W, ys, W', e => by cases e; exact Nat.le_refl _
  | d :: ds, W, ys, W', e => by
    unfold lcL at e
    split at e
    · rename_i ρ' _
      cases e1 : t ρ' W with
      | bad => rw [e1] at e; cases e
      | exc c fs W1 => rw [e1] at e; cases e
      | ok b W1 =>
        rw [e1] at e
        simp only [bind_ok] at e
        cases b with
        | false => rw [if_neg Bool.false_ne_true] at e; exact Nat.le_succ_of_le (lc_len e)
        | true =>
          rw [if_pos rfl] at e
          cases e2 : f ρ' W1 with
          | bad => rw [e2] at e; cases e
          | exc c fs W1 => rw [e2] at e; cases e
          | ok v W2 =>
            rw [e2] at e
            simp only [bind_ok] at e
            split at e
            · rename_i y _
              cases e3 : lcL p t f ρ ds W2 with
              | bad => rw [e3] at e; cases e
              | exc c fs W1 => rw [e3] at e; cases e
              | ok zs W3 =>
                rw [e3] at e
                cases e
                exact Nat.succ_le_succ (lc_len e3)
            · cases e
    · cases e
/-! the list that is made stands apart -/
def priv (u : Wd) (p : Addr) (o : HO) : Wd := { u with H := upd u.H p o }
theorem le_priv {u : Wd} {p : Addr} {o : HO} (hp : u.H p = none) : Le u (priv u p o) :=
  ⟨fun _ _ h => h, Nat.le_refl _, fun _ _ => rfl, fun a x h _ _ => by show upd u.H p o a = _; rw [upd_ne (ne_of_none h hp)]; exact h, fun _ _ _ _ h _ => h, fun i h1 h2 => absurd h2 (Nat.not_lt.mpr h1), fun a h => by
    have h' : Loose (upd u.H p o a) := h
    by_cases ha : a = p
    · subst ha; exact .inl hp
    · rw [upd_ne ha] at h'; exact h'⟩
theorem good_priv {u : Wd} {p : Addr} {o : HO} (g : Good G u) (hp : u.H p = none) : Good G (priv u p o) := by
  have l := le_priv (o := o) hp
  have kk : ∀ a x, u.H a = some x → upd u.H p o a = some x := fun a x h => by rw [upd_ne (ne_of_none h hp)]; exact h
  refine ⟨fun a x h => ?_, fun i x e al => ?_, g.inj, g.tb.ext kk, g.nt, fun i hi => ?_⟩
  · rcases g.sh a x h with z | ⟨od, z, d⟩
    · exact .inl (kk _ _ z)
    · exact .inr ⟨od, kk _ _ z, d⟩
  · obtain ⟨h1, h2⟩ := g.ob i x e al
    have hi : i < u.W.length := (List.getElem?_eq_some_iff.mp e).1
    exact ⟨h1, h2.mono l (by show upd u.H p o (u.μ i) = _; rw [upd_ne (g.freshM hp i hi)]; rfl)⟩
  · show ¬ Loose (upd u.H p o (u.μ i))
    rw [upd_ne (g.freshM hp i hi)]; exact g.th i hi
theorem unpriv {u v : Wd} {p : Addr} {o : HO} (g : Good G u) (hp : u.H p = none) (hn : prv o = true) (l : Le (priv u p o) v) (gv : Good G v) : ∃ u', Le u u' ∧ Good G u' ∧ u'.H p = none ∧ priv u' p o = v ∧ u'.W = v.W := by
  have hs : u.Hs p = none := g.freshS hp
  have e1 : (priv u p o).H p = some o := upd_same
  have hm : ∀ i, i < u.W.length → (priv u p o).μ i ≠ p := fun i hi => g.freshM hp i hi
  have hv : v.H p = some o := l.fr p o e1 hm (fun ps z => nex_tbl (prv_nex hn) ps z)
  have hvs : v.Hs p = none := l.pv p o e1 hn hs hm
  have hvm : ∀ i, i < v.W.length → v.μ i ≠ p := fun i hi z => by
    by_cases h : i < u.W.length
    · have := l.mu i h
      exact hm i h (by rw [← this]; exact z)
    · have := l.nw i (Nat.not_lt.mp h) hi
      rw [z, e1] at this; exact loose_some this (fun ps z => nex_tbl (prv_nex hn) ps z)
  let u' : Wd := { v with H := fun b => if b = p then none else v.H b }
  have hu : ∀ b, b ≠ p → u'.H b = v.H b := fun b hb => if_neg hb
  have hup : u'.H p = none := if_pos rfl
  have pr : priv u' p o = v := by
    have : upd u'.H p o = v.H := by
      funext b
      by_cases hb : b = p
      · rw [hb, upd_same, hv]
      · rw [upd_ne hb, hu b hb]
    show ({ u' with H := upd u'.H p o } : Wd) = v
    rw [this]
  refine ⟨u', ⟨l.hs, l.ln, l.mu, fun a x h h1 h2 => ?_, fun a x h hq h1 h2 => ?_, fun i h1 h2 => ?_, fun a h => ?_⟩, ⟨fun a x h => ?_, fun i x e al => ?_, gv.inj, ?_, gv.nt, fun i hi => ?_⟩, hup, pr, rfl⟩
  · have ha : a ≠ p := ne_of_none h hp
    rw [hu a ha]
    exact l.fr a x (by show upd u.H p o a = _; rw [upd_ne ha]; exact h) h1 h2
  · have ha : a ≠ p := ne_of_none h hp
    exact l.pv a x (by show upd u.H p o a = _; rw [upd_ne ha]; exact h) hq h1 h2
  · have := l.nw i h1 h2
    have h' : Loose (upd u.H p o (v.μ i)) := this
    rw [upd_ne (hvm i h2)] at h'
    exact h'
  · by_cases ha : a = p
    · rw [ha]; exact .inl hp
    · rw [hu a ha] at h
      have := l.th a h
      have h' : Loose (upd u.H p o a) := this
      rw [upd_ne ha] at h'
      exact h'
  · have ha : a ≠ p := fun z => by rw [z] at h; have h' : v.Hs p = some x := h; rw [hvs] at h'; cases h'
    rw [hu a ha]
    exact gv.sh a x h
  · obtain ⟨h1, h2⟩ := gv.ob i x e al
    have hi : i < v.W.length := (List.getElem?_eq_some_iff.mp e).1
    have eH : u'.H (v.μ i) = v.H (v.μ i) := hu _ (hvm i hi)
    refine ⟨h1, ?_⟩
    exact RepO.monoS (w := v) (w' := u') (fun _ _ h => h) h2 eH
  · exact tabs_but gv.tb hv (prv_nex hn) fun b x h hb => by rw [hu b hb]; exact h
  · show ¬ Loose (u'.H (v.μ i))
    rw [hu _ (hvm i hi)]; exact gv.th i hi
theorem wipe_wipe (σ : L2.St) : ∀ vs us : List Nat, (∀ i ∈ vs, i ∈ us) → wipe (wipe σ vs) us = wipe σ us
  | [], us, _ => rfl
  | v :: vs, us, h => by
    show wipe ((wipe σ vs).set v none) us = _
    rw [wipe_set v none _ us (h v List.mem_cons_self)]
    exact wipe_wipe σ vs us fun i hi => h i (List.mem_cons_of_mem _ hi)
theorem Want.here' {u : Wd} {ys : List D} {Dd : Addr} {vs : List V} {Q : VK} (h : Want G u (.lst ys) Q) (g : Good G u) (hu : u.H Dd = none) (r : Reps G u ys vs) : Q (.ref Dd) (upd u.H Dd (.lst vs)) :=
  want_new h g (fun _ z => by cases z) hu ⟨Dd, vs, rfl, upd_same, Reps.mono (le_new g hu) _ _ r⟩
theorem lc_rdG {mk : List D → List O → Res Vl} {K : PySem.W.Frag} {p : TgP} {fi : Sem (List D)} {t : Sem Bool} {f : Sem Vl} {own : List Nat} {H : Hp} {Q : VK} (hsub : ∀ i ∈ slotsP p, i ∈ own)
    (hfin : ∀ (u : Wd) (ys : List D) (vs : List V) (Dd : Addr), Good G u → u.H Dd = none → Reps G u ys vs → Post G (RepV G) Wx σ u (mk ys u.W) Q → Q (.ref Dd) (upd u.H Dd (.lst vs)))
    (hh : tE G Wx (eLcG mk own p fi t f) σ H Q) : tLc (tI G Wx fi) (gRd K p) (tT G (fun _ _ _ _ => False) t) (tE G (fun _ _ _ _ => False) f) own σ H Q := by
  obtain ⟨w, ρ, rfl, gd, er, q⟩ := hh
  refine ⟨w, ρ, rfl, gd, er, ?_⟩
  unfold eLcG at q
  cases e : fi ρ w.W with
  | bad => rw [e] at q; exact q
  | exc c fs Wo => rw [e] at q; exact q
  | ok ds Wo =>
    rw [e] at q
    simp only [bind_ok] at q
    intro w1 J l1 g1 eW ok Dd hD
    have q1 : Post G (RepV G) Wx σ w1 ((noX (lcL p t f (wipeR ρ own) ds w1.W)).bind fun ys W2 => if ds.length ≤ sizeLine then mk ys W2 else .bad) Q := by rw [eW]; exact Post.le q l1
    have erw := er_wipe (er.mono l1) own
    refine ⟨fun i m H => m = ds.length - i ∧ i ≤ ds.length ∧ ∃ u ys vs, H = (priv u Dd (.lst vs)).H ∧ Le w1 u ∧ Good G u ∧ u.H Dd = none ∧ Reps G u ys vs ∧ ys.length ≤ i ∧
      Post G (RepV G) Wx σ u ((noX (lcL p t f (wipeR ρ own) (ds.drop i) u.W)).bind fun zs W2 => if ds.length ≤ sizeLine then mk (ys ++ zs) W2 else .bad) Q,
      ⟨ds.length, rfl, Nat.zero_le _, w1, [], [], rfl, Le.refl w1, g1, hD, rfl, Nat.le_refl _, q1⟩, ?_⟩
    rintro i m H2 ⟨rfl, hi, u, ys, vs, rfl, lu, gu, hu, ry, hy, qu⟩
    have lp := le_priv (o := .lst vs) hu
    have gp := good_priv (o := .lst vs) gu hu
    obtain ⟨k1, k2, k3⟩ := ok (priv u Dd (.lst vs)) (lu.trans lp) gp
    by_cases h : i < ds.length
    · refine .inr ⟨k1 i h, fun H => i + 1 ≤ ds.length ∧ ∃ u ys vs, H = (priv u Dd (.lst vs)).H ∧ Le w1 u ∧ Good G u ∧ u.H Dd = none ∧ Reps G u ys vs ∧ ys.length ≤ i + 1 ∧
        Post G (RepV G) Wx σ u ((noX (lcL p t f (wipeR ρ own) (ds.drop (i + 1)) u.W)).bind fun zs W2 => if ds.length ≤ sizeLine then mk (ys ++ zs) W2 else .bad) Q,
        fun H' ⟨a0, a1⟩ => ⟨ds.length - (i + 1), by omega, rfl, a0, a1⟩, fun x H' hyl => ?_⟩
      have hd : ds[i]? = some ds[i] := List.getElem?_eq_getElem h
      obtain ⟨v3, l3, g3, rfl, eW3, r3⟩ := k3 i x H' hyl _ hd
      obtain ⟨u3, lu3, gu3, hu3, rfl, eWu3⟩ := unpriv gu hu rfl l3 g3
      rw [List.drop_eq_getElem_cons h] at qu
      unfold lcL at qu
      have eWW : u3.W = u.W := eWu3.trans eW3
      cases eb : bindP p ds[i] (wipeR ρ own) with
      | none => rw [eb] at qu; exact qu.elim
      | some ρ' =>
        rw [eb] at qu
        have erv : ER G (priv u3 Dd (.lst vs)) (wipeR ρ own) (wipe σ own) := ((erw.mono lu).mono lp).mono l3
        refine bind_rd g3 p _ x (wipeR ρ own) ρ' (wipe σ own) _ eb r3 erv fun σ' er' hw => ⟨?_, priv u3 Dd (.lst vs), ρ', rfl, g3, er', ?_⟩
        · rw [hw own hsub, wipe_wipe σ own own fun _ h => h]
        · have qu3 := Post.le qu lu3
          rw [← eWW] at qu3
          show Post G RB (fun _ _ _ _ => False) σ' (priv u3 Dd (.lst vs)) (t ρ' u3.W) _
          cases et : t ρ' u3.W with
          | bad => simp only [et, bind_bad, noX_bad] at qu3; exact qu3
          | exc c fs W4 => simp only [et, bind_exc, noX_exc, bind_bad] at qu3; exact qu3.elim
          | ok b W4 =>
            simp only [et, bind_ok] at qu3
            intro v4 b' l4 g4 eW4 rb
            cases rb
            obtain ⟨u4, lu4, gu4, hu4, rfl, eWu4⟩ := unpriv gu3 hu3 rfl l4 g4
            have qu4 := Post.le qu3 lu4
            have eW4' : u4.W = W4 := eWu4.trans eW4
            have ry4 := Reps.mono lu4 _ _ (Reps.mono lu3 _ _ ry)
            cases b with
            | false =>
              rw [if_neg Bool.false_ne_true] at qu4 ⊢
              exact ⟨h, u4, ys, vs, rfl, (lu.trans lu3).trans lu4, gu4, hu4, ry4, Nat.le_succ_of_le hy, by rw [eW4']; exact qu4⟩
            | true =>
              rw [if_pos rfl] at qu4 ⊢
              refine ⟨priv u4 Dd (.lst vs), ρ', rfl, g4, er'.mono l4, ?_⟩
              show Post G (RepV G) (fun _ _ _ _ => False) σ' (priv u4 Dd (.lst vs)) (f ρ' u4.W) _
              rw [eW4']
              cases ef : f ρ' W4 with
              | bad => simp only [ef, bind_bad, noX_bad] at qu4; exact qu4
              | exc c fs W4 => simp only [ef, bind_exc, noX_exc, bind_bad] at qu4; exact qu4.elim
              | ok y W5 =>
                simp only [ef, bind_ok] at qu4
                intro v5 yv l5 g5 eW5 r5
                obtain ⟨u5, lu5, gu5, hu5, rfl, eWu5⟩ := unpriv gu4 hu4 rfl l5 g5
                have qu5 := Post.le qu4 lu5
                have ry5 := Reps.mono lu5 _ _ ry4
                have eW5' : u5.W = W5 := eWu5.trans eW5
                cases y with
                | o j => simp only [pureD, noX_bad, bind_bad] at qu5; exact qu5.elim
                | d z =>
                  simp only [pureD] at qu5
                  have hsz : ds.length ≤ sizeLine := by
                    by_cases hz : ds.length ≤ sizeLine
                    · exact hz
                    · simp only [if_neg hz] at qu5
                      cases e6 : lcL p t f (wipeR ρ own) (ds.drop (i + 1)) W5 with
                      | bad => simp only [e6, bind_bad, noX_bad] at qu5; exact qu5.elim
                      | exc c fs W4 => simp only [e6, bind_exc, noX_exc, bind_bad] at qu5; exact qu5.elim
                      | ok zs W6 => simp only [e6, bind_ok, noX_ok] at qu5; exact qu5.elim
                  have lnv := ry5.length
                  refine ⟨vs, upd_same, by omega, h, u5, ys ++ [z], vs ++ [yv], upd_upd, ((lu.trans lu3).trans lu4).trans lu5, gu5, hu5, ry5.append (Reps.one (Rep.monoS (w := priv u5 Dd (.lst vs)) (w' := u5) (fun _ _ h => h) _ _ r5)), by rw [List.length_append, List.length_singleton]; omega, ?_⟩
                  rw [eW5']
                  cases e6 : lcL p t f (wipeR ρ own) (ds.drop (i + 1)) W5 with
                  | bad => simp only [e6, bind_bad, noX_bad] at qu5; exact qu5
                  | exc c fs W4 => simp only [e6, bind_exc, noX_exc, bind_bad] at qu5; exact qu5
                  | ok zs W6 =>
                    simp only [e6, bind_ok, noX_ok] at qu5 ⊢
                    rw [List.append_assoc]
                    exact qu5
    · have ei : i = ds.length := by omega
      subst ei
      refine .inl ⟨k2, ?_⟩
      rw [List.drop_length] at qu
      simp only [lcL, noX_ok, bind_ok, List.append_nil] at qu
      split at qu
      · exact hfin u ys vs Dd gu hu ry qu
      · exact qu.elim
theorem lc_rd {K : PySem.W.Frag} {p : TgP} {fi : Sem (List D)} {t : Sem Bool} {f : Sem Vl} {own : List Nat} {H : Hp} {Q : VK} (hsub : ∀ i ∈ slotsP p, i ∈ own)
    (hh : tE G Wx (eLc own p fi t f) σ H Q) : tLc (tI G Wx fi) (gRd K p) (tT G (fun _ _ _ _ => False) t) (tE G (fun _ _ _ _ => False) f) own σ H Q :=
  lc_rdG (mk := fun ys W => .ok (.d (.lst ys)) W) hsub (fun u ys vs Dd g hu r q => q.want.here' g hu r) hh
/-- [e for tg in it if ..] -/
theorem se_lc {elt tg iter : Expr} {ifs : List Expr} {scope : Scope} {own : List (Str × Nat)} {pos : Pos} {p : TgP} {fi : Sem (List D)} {t : Sem Bool} {f : Sem Vl} (vc : VC G X k Wx) (hi : SI G X Wx tg iter fi) (ok : BlkOk X.N X.env.scope scope own)
    (hg : ∀ (s : Shared) (H : Hp) (C : Addr) (cl : List (Str × Addr)) (fp : List Addr), SG (X.blk s H scope (compEnvC scope cl C X.env) fp) tg p)
    (ht : ∀ (s : Shared) (H : Hp) (C : Addr) (cl : List (Str × Addr)) (fp : List Addr), STs G (X.blk s H scope (compEnvC scope cl C X.env) fp) (fun _ _ _ _ => False) ifs t)
    (he : ∀ (s : Shared) (H : Hp) (C : Addr) (cl : List (Str × Addr)) (fp : List Addr), SE G (X.blk s H scope (compEnvC scope cl C X.env) fp) (fun _ _ _ _ => False) elt f) (hsub : ∀ i ∈ slotsP p, i ∈ own.map (·.2) := by decide) (hs : ∀ x, foldedSetIterable iter X.env x = pure x := by intro _; rfl) :
    SE G X Wx (.ListComp elt [⟨tg, iter, ifs, 0⟩] scope pos) (eLc (own.map (·.2)) p fi t f) :=
  PE.imp (pe_lc vc.calm vc.nd hi ok hg ht he hs) fun σ H Q hh => lc_rd hsub hh
end
end VL
set_option Elab.async false
set_option linter.all false
set_option maxRecDepth 100000
set_option maxHeartbeats 4000000
namespace VL
open PySem PySem.Spec PyProof.Rows L2
section
variable {G : Gm} {X : Cx} {k : Nat} {Wx : WX} {σ : L2.St} {w w' : Wd} {ρ : Rho} {Dn : Ends}
/-! ### defs -/
def WEx (E : XK) : WX := fun cls d _ H => E cls d H
/-- a def's promise: it hands back what g does -/
def spI (G : Gm) (n : Nat) (g : List Vl → List O → Res Vl) : Sp := fun vs H Q E => ∃ w ds, w.H = H ∧ Good G w ∧ RepVs G w ds vs ∧ ds.length = n ∧ Post G (RepV G) (WEx E) [] w (g ds w.W) Q
def finF (n : Nat) (d : Vl) (W' : List O) : Res Vl := match d with
  | .d x => .ok (.d x) (W'.take n)
  | .o j => if j < n then .ok (.o j) (W'.take n) else match W'[j]? with
    | some x => match frzO x with
      | some d => .ok (.d d) (W'.take n)
      | none => .bad
    | none => .bad
def runF (n : Nat) (body : SemS) : List Vl → List O → Res Vl := fun ds W => match body (ds.map some ++ List.replicate (n - ds.length) none) W with
  | .ok (.rt d) _ W' => finF W.length d W'
  | .ok .nx _ W' => .ok (.d .non) (W'.take W.length)
  | .ok _ _ _ => .bad
  | .exc c fs _ W' => .exc c fs (W'.take W.length)
  | .bad => .bad
def trunc (w : Wd) (n : Nat) : Wd := { w with W := w.W.take n }
theorem good_trunc (g : Good G w) (n : Nat) : Good G (trunc w n) := by
  have wk : ∀ i y, (w.W.take n)[i]? = some y → w.W[i]? = some y := fun i y e => by
    rw [List.getElem?_take] at e
    split at e
    · exact e
    · cases e
  exact ⟨g.sh, fun i x e al => by
      obtain ⟨h1, h2⟩ := g.ob i x (wk i x e) al
      exact ⟨h1, RepO.monoS (w := w) (w' := trunc w n) (fun _ _ h => h) h2 rfl⟩, fun i j y z e1 e2 => g.inj i j y z (wk i y e1) (wk j z e2), g.tb, g.nt, fun i hi => g.th i (by
        have : i < (w.W.take n).length := hi
        rw [List.length_take] at this; omega)⟩
theorem le_trunc {w0 : Wd} (l : Le w0 w) : Le w0 (trunc w w0.W.length) :=
  ⟨l.hs, by show _ ≤ (w.W.take _).length; rw [List.length_take]; have := l.ln; omega, l.mu, l.fr, l.pv, fun i h1 h2 => by
    have : i < (w.W.take w0.W.length).length := h2
    rw [List.length_take] at this; omega, l.th⟩
theorem repV_trunc {w0 : Wd} {j : Nat} {v : V} (l : Le w0 w) (r : RepV G w (.o j) v) (h : j < w0.W.length) : RepV G (trunc w w0.W.length) (.o j) v :=
  ⟨by show j < (w.W.take _).length; rw [List.length_take]; have := l.ln; omega, r.2⟩
/-- a def's body begins -/
theorem start_rd {N : List Str} {body : SemS} {E : XK} {Q : VK} {w0 : Wd} {ds : List Vl} {vs : List V} (g0 : Good G w0) (r0 : RepVs G w0 ds vs) (p0 : Post G (RepV G) (WEx E) [] w0 (runF N.length body ds w0.W) Q) :
    tS G (WEx E) body { nx := fun _ H' => Q .non H', rt := Q } (L2.start N vs) w0.H := by
  refine ⟨w0, ds.map some ++ List.replicate (N.length - ds.length) none, rfl, g0, ?_, ?_⟩
  · have ln := r0.length
    refine ⟨?_, fun i d e => ?_⟩
    · unfold L2.start
      rw [List.length_append, List.length_append, List.length_map, List.length_map, List.length_replicate, List.length_replicate, ln]
    · by_cases hi : i < ds.length
      · rw [List.getElem?_append_left (by rw [List.length_map]; exact hi), List.getElem?_map, List.getElem?_eq_getElem hi] at e
        cases e
        have key : ∀ (ds : List Vl) (vs : List V) (i : Nat) (hi : i < ds.length), RepVs G w0 ds vs → ∃ v, vs[i]? = some v ∧ RepV G w0 ds[i] v := by
          intro ds
          induction ds with
          | nil => intro vs i hi; exact absurd hi (Nat.not_lt_zero _)
          | cons d ds ih =>
            intro vs i hi r
            obtain ⟨v, r', rfl, h1, h2⟩ := r
            cases i with
            | zero => exact ⟨v, rfl, h1⟩
            | succ i =>
              obtain ⟨u, e1, e2⟩ := ih r' i (by simpa using hi) h2
              exact ⟨u, by simpa using e1, e2⟩
        obtain ⟨v, e1, e2⟩ := key ds vs i hi r0
        refine ⟨v, ?_, e2⟩
        unfold L2.start
        rw [List.getElem?_append_left (by rw [List.length_map]; omega), List.getElem?_map, e1]; rfl
      · rw [List.getElem?_append_right (by rw [List.length_map]; omega), List.getElem?_replicate] at e
        split at e <;> cases e
  · unfold runF at p0
    cases eb : body (ds.map some ++ List.replicate (N.length - ds.length) none) w0.W with
    | bad => rw [eb] at p0; exact p0.elim
    | exc c fs ρ' W' =>
      rw [eb] at p0
      intro w1 σ1 dd l1 g1 eW er1 rx
      refine p0 (trunc w1 w0.W.length) dd (le_trunc l1) (good_trunc g1 _) (by show w1.W.take _ = _; rw [eW]) ?_
      obtain ⟨xs, us, h1, h2, h3⟩ := rx
      exact ⟨xs, us, h1, Reps.monoS (w := w1) (w' := trunc w1 w0.W.length) (fun _ _ h => h) _ _ h2, h3⟩
    | ok fl ρ' W' =>
      rw [eb] at p0
      intro w1 l1 g1 eW
      cases fl with
      | nx => exact fun σ er => p0 (trunc w1 w0.W.length) V.non (le_trunc l1) (good_trunc g1 _) (by show w1.W.take _ = _; rw [eW]) rfl
      | bk => exact p0.elim
      | ct => exact p0.elim
      | rt d =>
        intro v rv
        have p1 : Post G (RepV G) (WEx E) [] w0 (finF w0.W.length d W') Q := p0
        unfold finF at p1
        cases d with
        | d y => exact p1 (trunc w1 w0.W.length) v (le_trunc l1) (good_trunc g1 _) (by show w1.W.take _ = _; rw [eW]) (Rep.monoS (w := w1) (w' := trunc w1 w0.W.length) (fun _ _ h => h) _ _ rv)
        | o j =>
          by_cases hj : j < w0.W.length
          · simp only [if_pos hj] at p1
            exact p1 (trunc w1 w0.W.length) v (le_trunc l1) (good_trunc g1 _) (by show w1.W.take _ = _; rw [eW]) (repV_trunc l1 rv hj)
          · simp only [if_neg hj] at p1
            rw [← eW] at p1
            cases ex : w1.W[j]? with
            | none => simp only [ex] at p1; exact p1.elim
            | some y =>
              simp only [ex] at p1
              cases ez : frzO y with
              | none => simp only [ez] at p1; exact p1.elim
              | some z =>
                simp only [ez] at p1
                obtain ⟨o, ho, hn, al, rp⟩ := rep_frz g1 ex ez
                obtain ⟨l2, g2⟩ := good_frz g1 ex al ho hn
                have l3 := l1.trans l2
                have := p1 (trunc { w1 with Hs := upd w1.Hs (w1.μ j) o, W := w1.W.set j .dead } w0.W.length) v (le_trunc l3) (good_trunc g2 _) (by
                  show (w1.W.set j .dead).take w0.W.length = w1.W.take w0.W.length
                  rw [List.take_set_of_le (by omega)])
                refine this ?_
                rw [show v = _ from rv.2]
                exact Rep.monoS (w := { w1 with Hs := upd w1.Hs (w1.μ j) o, W := w1.W.set j .dead }) (w' := trunc { w1 with Hs := upd w1.Hs (w1.μ j) o, W := w1.W.set j .dead } w0.W.length) (fun _ _ h => h) _ _ rp
/-- a def that keeps its promise -/
theorem fn_mkI {P : Program} {w : World} {K : PySem.W.Frag} {mg : Str → Option Value} {base : Heap} {x qual : Str} {st : Stmt} {f : Addr} {fd : FuncData} {N ps : List Str} {k : Nat} {body : SemS} (F : Fun K x qual st f fd) (S : FnScope N ps (defScope st)) (hK : K = G.K)
    (h : ∀ (cdv : Value) (A : Around) (outer : List Env) (s : Shared) (H : Hp) (E : XK), VC G (cxOf (L2.CX P w) P w K mg base N qual (defScope st) f cdv A outer s H E) k (WEx E) →
      SSs G (cxOf (L2.CX P w) P w K mg base N qual (defScope st) f cdv A outer s H E) (WEx E) (defBody st) body) :
    FnOk P w K mg base (L2.CX P w) (k + 1) f fd ps (spI G ps.length (runF N.length body)) := by
  refine F.okX S (fun vs H Q E hsp => ?_) (fun cdv A outer s H vs Q E hr hsp => ?_)
  · obtain ⟨w, ds, _, _, r, hl, _⟩ := hsp
    rw [r.length, hl]
  · obtain ⟨w0, ds, rfl, g0, r0, hl, p0⟩ := hsp
    have vc : VC G (cxOf (L2.CX P w) P w K mg base N qual (defScope st) f cdv A outer s w0.H E) k (WEx E) := ⟨hK, rfl, S.nd, takes_of rfl rfl rfl rfl, passes_of rfl, hr⟩
    exact ⟨tS G (WEx E) body, h cdv A outer s w0.H E vc, start_rd g0 r0 p0⟩
/-! ### calls -/
def eFun (g : List Vl → List O → Res Vl) (fs : Sem (List Vl)) : Sem Vl := fun ρ W => (fs ρ W).bind fun as W1 => g as W1
theorem se_call {n : Nat} {j : Nat} {x : Str} {f : Addr} {fd : FuncData} {ps : List Str} {g : List Vl → List O → Res Vl} {e : Expr} {es : List Expr} {fs : Sem (List Vl)} {p pos : Pos} (vc : VC G X k Wx) (F : FnOk X.prog X.w X.K X.mg X.base (L2.CX X.prog X.w) j f fd ps (spI G n g)) (hj : j ≤ k)
    (hg : Gl X x) (hm : X.mg x = some (.ref f)) (hk : PySem.W.keepIn X.K (.ref f) = true) (hb : Binds X.K fd ps []) (ha : SA G X Wx (e :: es) fs) (hl : (e :: es).length = n := by rfl)
    (hdb : (x == ("__debug__" : Str)) = false := by decide) (he : starEach (e :: es) X.env = (false, eval e X.env) :: starEach es X.env := by rfl) (hpl : (backTo pos (starEach es X.env)).any (·.1) = false := by rfl)
    (hsz : ∀ ρ W as W1, fs ρ W = .ok as W1 → as.length = n) : SE G X Wx (.Call (.Name x p) (e :: es) [] pos) (eFun g fs) := by
  refine PE.imp (pe_callSD F (vc.hr.mono hj) hg hm hk hb .nil (fun σ => passAt vc.tk σ) ha hdb he hpl) fun σ H Q hh => ?_
  obtain ⟨w, ρ, rfl, gd, er, q⟩ := hh
  refine ⟨w, ρ, rfl, gd, er, ?_⟩
  unfold eFun at q
  cases e1 : fs ρ w.W with
  | bad => rw [e1] at q; exact q
  | exc c fs Wo => rw [e1] at q; exact q
  | ok as Wo =>
    rw [e1] at q
    intro w1 vs l1 g1 eW r
    refine ⟨w1, as, rfl, g1, by rw [List.append_nil]; exact r, hsz _ _ _ _ e1, ?_⟩
    have q1 := Post.le q l1
    simp only [bind_ok] at q1
    rw [eW]
    cases e2 : g as Wo with
    | bad => rw [e2] at q1; exact q1
    | exc c fs W2 => rw [e2] at q1; exact q1
    | ok d W2 => rw [e2] at q1; exact q1
theorem len_nil : ∀ ρ W as W1, aNil ρ W = .ok as W1 → as.length = 0 := fun _ _ _ _ e => by cases e; rfl
theorem len_cons {f : Sem Vl} {fs : Sem (List Vl)} {n : Nat} (h : ∀ ρ W as W1, fs ρ W = .ok as W1 → as.length = n) : ∀ ρ W as W1, aCons f fs ρ W = .ok as W1 → as.length = n + 1 := fun ρ W as W1 e => by
  unfold aCons at e
  cases e1 : f ρ W with
  | bad => rw [e1] at e; cases e
  | exc c fs Wo => rw [e1] at e; cases e
  | ok a Wo =>
    rw [e1] at e
    simp only [bind_ok] at e
    cases e2 : fs ρ Wo with
    | bad => rw [e2] at e; cases e
    | exc c fs Wo => rw [e2] at e; cases e
    | ok bs W2 =>
      rw [e2] at e
      cases e
      rw [List.length_cons, h _ _ _ _ e2]
/-! ### built-ins -/
def lenD (a : D) : Option D := match a with
  | .lst ds => some (.int ds.length)
  | .tup ds => some (.int ds.length)
  | .scr xs => some (.int xs.length)
  | .str z => if z.length ≤ sizeLine then some (.int z.length) else none
  | _ => none
def one (g : D → Option D) (as : List D) : Option D := match as with
  | [a] => g a
  | _ => none
@[simp] theorem one_one (g : D → Option D) (a : D) : one g [a] = g a := rfl
theorem cs_one {f : Value} {r : List V → Hp → VK → Prop} {g : D → Option D} (h : CallR X f r) (hr : ∀ w v a z Q, Good G w → RepC G w a v → g a = some z → Want G w z Q → r [v] w.H Q) : CallS G X f (one g) :=
  ⟨r, h, fun w vs ds z Q gd rs e wn => by
    unfold one at e
    split at e
    · obtain ⟨v, r', rfl, r1, rfl⟩ := rs
      exact hr w v _ z Q gd r1 e wn
    · cases e⟩
theorem cs_len (eK : G.K = X.K) : CallS G X (.builtin "len") (one lenD) := cs_one call_len fun w v a z Q gd r e wn => by
  unfold lenD at e
  split at e
  · rename_i ds
    cases e
    obtain ⟨a, vs, rfl, h1, q⟩ := r
    have := q.length
    exact ⟨_, vs.length, rfl, .inl ⟨vs, .of h1, rfl⟩, by rw [this]; exact wn.here (v := V.int _) gd rfl⟩
  · rename_i ds
    cases e
    obtain ⟨a, vs, rfl, h1, q⟩ := r
    have := q.length
    exact ⟨_, vs.length, rfl, .inr ⟨vs, .of (gd.shN h1 rfl), rfl⟩, by rw [this]; exact wn.here (v := V.int _) gd rfl⟩
  · rename_i xs
    cases e
    obtain ⟨a, rfl, hq⟩ := r
    exact ⟨_, xs.length, rfl, .inl ⟨_, scr_sq eK gd hq, (List.length_map V.int).symm⟩, wn.here (v := V.int _) gd rfl⟩
  · rename_i z
    split at e
    · rename_i hz
      cases e
      obtain rfl : v = V.str z := r
      exact ⟨_, z.length, rfl, ⟨hz, rfl⟩, wn.here (v := V.int _) gd rfl⟩
    · cases e
  · cases e
def intD (a : D) : Option D := match a with
  | .int i => some (.int i)
  | .bl b => some (.int (if b then 1 else 0))
  | _ => none
theorem cs_int : CallS G X (.type "int") (one intD) := cs_one call_int1 fun w v a z Q gd r e wn => by
  unfold intD at e
  split at e
  · rename_i i
    cases e
    exact .inl ⟨i, by rw [show v = _ from r], wn.here (v := V.int _) gd rfl⟩
  · rename_i b
    cases e
    exact .inr ⟨b, by rw [show v = _ from r], wn.here (v := V.int _) gd rfl⟩
  · cases e
/-! ### o[i] = e -/
def dputK (kvs : List (D × D)) (k : Key) (kd d : D) : List (D × D) := if (kvs.any fun p => decide (toKey p.1 = some k)) then kvs.map fun p => if toKey p.1 = some k then (p.1, d) else p else kvs ++ [(kd, d)]
def dputT (kvs : List (D × D)) (k : List Key) (kd d : D) : List (D × D) := if (kvs.any fun p => decide (toKeys p.1 = some k)) then kvs.map fun p => if toKeys p.1 = some k then (p.1, d) else p else kvs ++ [(kd, d)]
def dput (t : Bool) (kvs : List (D × D)) (k d : D) : Option (List (D × D)) := match t with
  | true => (toKeys k).map fun ks => dputT kvs ks k d
  | false => (toKey k).map fun ks => dputK kvs ks k d
theorem repK_map {kd d : D} {kk : Key} {y : V} (hy : Rep G w d y) : ∀ {kvs : List (D × D)} {kv : List (Key × V)}, RepK G w kvs kv → RepK G w (kvs.map fun p => if toKey p.1 = some kk then (p.1, d) else p) (kv.map fun p => if p.1 = kk then (p.1, y) else p)
  | [], kv, r => by rw [show kv = _ from r]; rfl
  | (k', d') :: ds, kv, r => by
    obtain ⟨k2, v, r', rfl, e, r1, r2⟩ := r
    rw [List.map_cons, List.map_cons]
    by_cases h : k2 = kk
    · subst h
      rw [if_pos e, if_pos rfl]
      exact ⟨k2, y, _, rfl, e, hy, repK_map (kd := kd) hy r2⟩
    · rw [if_neg (by rw [e]; exact fun z => h (Option.some.inj z)), if_neg h]
      exact ⟨k2, v, _, rfl, e, r1, repK_map (kd := kd) hy r2⟩
theorem repT_map {kd d : D} {kk : List Key} {y : V} (hy : Rep G w d y) : ∀ {kvs : List (D × D)} {kv : List (List Key × V)}, RepT G w kvs kv → RepT G w (kvs.map fun p => if toKeys p.1 = some kk then (p.1, d) else p) (kv.map fun p => if p.1 = kk then (p.1, y) else p)
  | [], kv, r => by rw [show kv = _ from r]; rfl
  | (k', d') :: ds, kv, r => by
    obtain ⟨k2, v, r', rfl, e, r1, r2⟩ := r
    rw [List.map_cons, List.map_cons]
    by_cases h : k2 = kk
    · subst h
      rw [if_pos e, if_pos rfl]
      exact ⟨k2, y, _, rfl, e, hy, repT_map (kd := kd) hy r2⟩
    · rw [if_neg (by rw [e]; exact fun z => h (Option.some.inj z)), if_neg h]
      exact ⟨k2, v, _, rfl, e, r1, repT_map (kd := kd) hy r2⟩
theorem repK_any {kk : Key} : ∀ {kvs : List (D × D)} {kv : List (Key × V)}, RepK G w kvs kv → (kvs.any fun p => decide (toKey p.1 = some kk)) = kv.any fun p => decide (p.1 = kk)
  | [], kv, r => by rw [show kv = _ from r]; rfl
  | (k', d') :: ds, kv, r => by
    obtain ⟨k2, v, r', rfl, e, r1, r2⟩ := r
    rw [List.any_cons, List.any_cons, repK_any r2]
    congr 1
    rw [e]
    by_cases h : k2 = kk
    · simp [h]
    · simp [h]
theorem repT_any {kk : List Key} : ∀ {kvs : List (D × D)} {kv : List (List Key × V)}, RepT G w kvs kv → (kvs.any fun p => decide (toKeys p.1 = some kk)) = kv.any fun p => decide (p.1 = kk)
  | [], kv, r => by rw [show kv = _ from r]; rfl
  | (k', d') :: ds, kv, r => by
    obtain ⟨k2, v, r', rfl, e, r1, r2⟩ := r
    rw [List.any_cons, List.any_cons, repT_any r2]
    congr 1
    rw [e]
    by_cases h : k2 = kk
    · simp [h]
    · simp [h]
theorem repK_app : ∀ {kvs : List (D × D)} {kv : List (Key × V)} {kd d : D} {kk : Key} {y : V}, RepK G w kvs kv → toKey kd = some kk → Rep G w d y → RepK G w (kvs ++ [(kd, d)]) (kv ++ [(kk, y)])
  | [], kv, kd, d, kk, y, r, e, hy => by rw [show kv = _ from r]; exact ⟨kk, y, [], rfl, e, hy, rfl⟩
  | (k', d') :: ds, kv, kd, d, kk, y, r, e, hy => by
    obtain ⟨k2, v, r', rfl, e2, r1, r2⟩ := r
    exact ⟨k2, v, _, rfl, e2, r1, repK_app r2 e hy⟩
theorem repT_app : ∀ {kvs : List (D × D)} {kv : List (List Key × V)} {kd d : D} {kk : List Key} {y : V}, RepT G w kvs kv → toKeys kd = some kk → Rep G w d y → RepT G w (kvs ++ [(kd, d)]) (kv ++ [(kk, y)])
  | [], kv, kd, d, kk, y, r, e, hy => by rw [show kv = _ from r]; exact ⟨kk, y, [], rfl, e, hy, rfl⟩
  | (k', d') :: ds, kv, kd, d, kk, y, r, e, hy => by
    obtain ⟨k2, v, r', rfl, e2, r1, r2⟩ := r
    exact ⟨k2, v, _, rfl, e2, r1, repT_app r2 e hy⟩
theorem repK_put {kvs : List (D × D)} {kv : List (Key × V)} {kd d : D} {kk : Key} {y : V} (r : RepK G w kvs kv) (e : toKey kd = some kk) (hy : Rep G w d y) : RepK G w (dputK kvs kk kd d) (putK kv kk y) := by
  unfold dputK putK
  rw [repK_any r]
  split
  · exact repK_map (kd := kd) hy r
  · exact repK_app r e hy
theorem repT_put {kvs : List (D × D)} {kv : List (List Key × V)} {kd d : D} {kk : List Key} {y : V} (r : RepT G w kvs kv) (e : toKeys kd = some kk) (hy : Rep G w d y) : RepT G w (dputT kvs kk kd d) (putK kv kk y) := by
  unfold dputT putK
  rw [repT_any r]
  split
  · exact repT_map (kd := kd) hy r
  · exact repT_app r e hy
theorem RepK.length : ∀ {kvs : List (D × D)} {kv : List (Key × V)}, RepK G w kvs kv → kv.length = kvs.length
  | [], kv, r => by rw [show kv = _ from r]; rfl
  | (k', d') :: ds, kv, r => by
    obtain ⟨k2, v, r', rfl, e2, r1, r2⟩ := r
    rw [List.length_cons, List.length_cons, RepK.length r2]
theorem RepT.length : ∀ {kvs : List (D × D)} {kv : List (List Key × V)}, RepT G w kvs kv → kv.length = kvs.length
  | [], kv, r => by rw [show kv = _ from r]; rfl
  | (k', d') :: ds, kv, r => by
    obtain ⟨k2, v, r', rfl, e2, r1, r2⟩ := r
    rw [List.length_cons, List.length_cons, RepT.length r2]
/-- o[i] = x on the store -/
def setW (o i x : Vl) (W : List O) : Option (List O) := match o with
  | .o j => match W[j]? with
    | some (.lst ds) => match i, x with
      | .d (.int a), .d y => (ixN ds.length a).map fun b => W.set j (.lst (ds.set b y))
      | _, _ => none
    | some (.dic t kvs) => match i, x with
      | .d a, .d y => if kvs.length < sizeLine then (dput t kvs a y).map fun kvs' => W.set j (.dic t kvs') else none
      | _, _ => none
    | _ => none
  | _ => none
def rSetD : TSet := fun o i v H Q => ∃ a H', o = .ref a ∧ DPut H a i v H' ∧ Q H'
theorem set_dic (hu : X.A.units + 1 < cLine) : PSet X rSetD := by
  intro pins s σ H o i v ov iv u Q I r1 r2 r3 h
  obtain ⟨a, H', rfl, g, q⟩ := h
  cases r1
  exact d_setItem hu I g r2 r3 fun s' I' => ⟨H', I', q⟩
theorem pset_or {t t' : TSet} (h : PSet X t) (h' : PSet X t') : PSet X (fun o i v H Q => t o i v H Q ∨ t' o i v H Q) := by
  intro pins s σ H o i v ov iv u Q I r1 r2 r3 q
  rcases q with q | q
  · exact h pins s σ H o i v ov iv u Q I r1 r2 r3 q
  · exact h' pins s σ H o i v ov iv u Q I r1 r2 r3 q
theorem set_reads {o i x : Vl} {ov iv xv : V} {W' : List O} {Q : Hp → Prop} (g : Good G w) (r1 : RepV G w o ov) (r2 : RepV G w i iv) (r3 : RepV G w x xv) (e : setW o i x w.W = some W') (q : ∀ w', Le w w' → Good G w' → w'.W = W' → Q w'.H) :
    rSetL ov iv xv w.H Q ∨ rSetD ov iv xv w.H Q := by
  unfold setW at e
  split at e
  · rename_i j
    split at e
    · rename_i ds ej
      split at e
      · rename_i a y
        obtain ⟨b, e1, rfl⟩ := Option.map_eq_some_iff.mp e
        obtain ⟨hs, vs, h1, h2⟩ := g.ob j _ ej rfl
        have hj := (List.getElem?_eq_some_iff.mp ej).1
        have l := le_put (w := w) (o := .lst (vs.set b xv)) (x := .lst (ds.set b y)) hj (fun _ z => by cases z)
        refine .inl ⟨w.μ j, vs, a, b, r1.2, r2, h1, by rw [h2.length]; exact e1, q (w.put j (.lst (vs.set b xv)) (.lst (ds.set b y))) l (good_put g ej rfl h1 rfl (fun _ z => by cases z) ?_) rfl⟩
        exact ⟨_, upd_same, (Reps.mono l _ _ h2).set b (Rep.mono l _ _ r3)⟩
      · cases e
    · rename_i t kvs ej
      split at e
      · rename_i a y
        split at e
        · rename_i hz
          obtain ⟨kvs', e1, rfl⟩ := Option.map_eq_some_iff.mp e
          have hj := (List.getElem?_eq_some_iff.mp ej).1
          obtain ⟨hs, hq⟩ := g.ob j _ ej rfl
          cases t with
          | false =>
            obtain ⟨kv, h1, h2⟩ := hq
            obtain ⟨kk, e2, rfl⟩ := Option.map_eq_some_iff.mp e1
            have eu : iv = kV kk := toKey_rep' r2 e2
            have l := le_put (w := w) (o := .dK (putK kv kk xv)) (x := .dic false (dputK kvs kk a y)) hj (fun _ z => by cases z)
            refine .inr ⟨w.μ j, upd w.H (w.μ j) (.dK (putK kv kk xv)), r1.2, .inl ⟨kv, kk, h1, eu, by rw [h2.length]; exact hz, rfl⟩, q (w.put j (.dK (putK kv kk xv)) (.dic false (dputK kvs kk a y))) l (good_put g ej rfl h1 rfl (fun _ z => by cases z) ?_) rfl⟩
            exact ⟨_, upd_same, repK_put (RepK.mono l _ _ h2) e2 (Rep.mono l _ _ r3)⟩
          | true =>
            obtain ⟨kv, h1, h2⟩ := hq
            obtain ⟨kk, e2, rfl⟩ := Option.map_eq_some_iff.mp e1
            obtain ⟨bb, eu, eb, _⟩ := toKeys_rep g (Rep.now g r2) e2
            have l := le_put (w := w) (o := .dT (putK kv kk xv)) (x := .dic true (dputT kvs kk a y)) hj (fun _ z => by cases z)
            refine .inr ⟨w.μ j, upd w.H (w.μ j) (.dT (putK kv kk xv)), r1.2, .inr ⟨kv, kk, bb, h1, eu, eb, by rw [h2.length]; exact hz, rfl⟩, q (w.put j (.dT (putK kv kk xv)) (.dic true (dputT kvs kk a y))) l (good_put g ej rfl h1 rfl (fun _ z => by cases z) ?_) rfl⟩
            exact ⟨_, upd_same, repT_put (RepT.mono l _ _ h2) e2 (Rep.mono l _ _ r3)⟩
        · cases e
      · cases e
    · cases e
  · cases e
def sSub (fe fo fi : Sem Vl) : SemS := fun ρ W => liftS (fe ρ W) ρ fun x W1 => liftS (fo ρ W1) ρ fun o W2 => liftS (fi ρ W2) ρ fun i W3 => match setW o i x W3 with
  | some W4 => .ok .nx ρ W4
  | none => .bad
theorem ss_sub {o i e : Expr} {fo fi fe : Sem Vl} {tpos pos : Pos} (vc : VC G X k Wx) (he : SE G X Wx e fe) (ho : SE G X Wx o fo) (hi : SE G X Wx i fi)
    (ha : ∀ v, assign (.Subscript o i tpos) X.env v = (do
      let ov ← holding [v] (eval o X.env)
      let iv ← holding [v, ov] (eval i X.env)
      standAt tpos
      holding [v, ov, iv] (setItem ov iv v)
      release [v, ov, iv] []) := by intro _; rfl)
    (hs : swapsWithSole [.Subscript o i tpos] e pos.line X.env = pure false := by rfl) (hw : swappedStores [.Subscript o i tpos] e X.env = pure none := by rfl)
    (h1 : (assignEach [.Subscript o i tpos] X.env).map (·.2) = [assign (.Subscript o i tpos) X.env] := by rfl) : SS G X Wx (.Assign [.Subscript o i tpos] e pos) (sSub fe fo fi) := by
  refine PS.imp (ps_asg he (pg_sub ho hi (pset_or set_list (set_dic vc.hu)) ha) hs hw h1) fun D σ H hh => ?_
  obtain ⟨w, ρ, rfl, gd, er, q⟩ := hh
  refine ⟨w, ρ, rfl, gd, er, (PostS.lift (R := RepV G) q er).mono fun xv H1 ⟨w1, x, e1, l1, g1, r1, q1⟩ => ?_⟩
  subst e1
  refine ⟨w1, ρ, rfl, g1, er.mono l1, (PostS.lift (R := RepV G) q1 (er.mono l1)).mono fun ov H2 ⟨w2, o, e2, l2, g2, r2, q2⟩ => ?_⟩
  subst e2
  refine ⟨w2, ρ, rfl, g2, (er.mono l1).mono l2, (PostS.lift (R := RepV G) q2 ((er.mono l1).mono l2)).mono fun iv H3 ⟨w3, i, e3, l3, g3, r3, q3⟩ => ?_⟩
  subst e3
  split at q3
  · rename_i W4 e4
    refine set_reads g3 (RepV.mono l3 _ _ r2) r3 (RepV.mono l3 _ _ (RepV.mono l2 _ _ r1)) e4 fun w4 l4 g4 e5 => q3 w4 l4 g4 e5 σ ((((er.mono l1).mono l2).mono l3).mono l4)
  · exact q3.elim
theorem sv (i : Nat) {x : Str} {pos : Pos} (hN : X.N[i]? = some x := by rfl) (hv : Vis X.env.scope x := by first | exact Or.inl rfl | exact Or.inr (Or.inl rfl) | exact Or.inr (Or.inr rfl))
    (hd : (x == ("__debug__" : Str)) = false := by decide) (hcd : (x == ("__classdict__" : Str)) = false := by decide) : SE G X Wx (.Name x pos) (eVar i) := se_var hN hv hd hcd
end
end VL
set_option Elab.async false
set_option linter.all false
set_option maxRecDepth 100000
set_option maxHeartbeats 4000000
namespace VL
open PySem PySem.Spec PyProof.Rows L2
section
variable {G : Gm} {X : Cx} {k : Nat} {Wx : WX} {σ : L2.St} {w w' : Wd} {ρ : Rho} {Dn : Ends}
/-! ### isinstance -/
def tyN : D → Option Ty
  | .non => some .non
  | .bl _ => some .bool
  | .int _ => some .int
  | .str _ => some .str
  | .lst _ => some .list
  | .tup _ => some .tuple
  | .dic _ _ => some .dict
  | _ => none
def isTy (a b : Ty) : Bool := match a, b with
  | .non, .non => true
  | .bool, .bool => true
  | .bool, .int => true
  | .int, .int => true
  | .str, .str => true
  | .list, .list => true
  | .tuple, .tuple => true
  | .dict, .dict => true
  | _, _ => false
theorem kit_isTy (a b : Ty) : kitB a.name b.name = some (isTy a b) := by
  cases a <;> cases b <;> decide +kernel
/-- a value's type: a locked dict with tuple keys too -/
inductive TyY (K : PySem.W.Frag) (H : Hp) : V → Value → Prop where
  | base {x : V} {t : Value} (h : TyX K H x t) : TyY K H x t
  | fT {a : Addr} {o : Obj} {kvs : List (List Key × V)} (e : H a = some (.frz o (.dT kvs))) : TyY K H (.ref a) (.type "dict")
theorem kit_ofY {pins : List (Addr × Obj)} {H : Hp} {s : Shared} {x : V} {u t : Value} (I : Inv X pins σ H s) (rx : RelV x u) (ty : TyY X.K H x t) : ∃ P : Heap → Prop, PySem.W.KitX X.K u t P ∧ P s.heap ∧ u ≠ .builtin "__main__.__loader__#opaque" := by
  cases ty with
  | base b => exact kit_of I rx b
  | @fT a ob kvs ea =>
    cases (show u = Value.ref a from rx)
    obtain ⟨_, _, _, vs, _, o, es, ep, h1, h2, _⟩ := (show ObjOk X.prog X.w H s.heap a (.frz ob (.dT kvs)) from I.hok a _ ea)
    exact ⟨_, PySem.W.kitx_dict, ⟨o, h1, h2.1⟩, fun z => nomatch z⟩
def rIsiY (K : PySem.W.Frag) : List V → Hp → VK → Prop := fun xs H Q => ∃ (x c : V) (t u : Value) (b : Bool), xs = [x, c] ∧ ClsV c u ∧ TyY K H x t ∧ PySem.W.kitOne K t u = some b ∧ Q (.bl b) H
def rIsiTY (K : PySem.W.Frag) : List V → Hp → VK → Prop := fun xs H Q => ∃ (x : V) (tp : Addr) (cs : List V) (t : Value) (us : List Value) (b : Bool), xs = [x, .ref tp] ∧ H tp = some (.tup cs) ∧ Paired ClsV cs us ∧ TyY K H x t ∧ PySem.W.kitAny K t us = some b ∧ Q (.bl b) H
theorem call_isiY : CallR X (.builtin "isinstance") (rIsiY X.K) := by
  intro pins s σ H xs us Q I r h
  obtain ⟨x, c, t, u, b, rfl, k, ty, e, q⟩ := h
  obtain ⟨u1, u2, rfl, r1, r2⟩ := vals2 r
  have e2 := k.eq r2
  subst e2
  obtain ⟨P, Z, p, hx⟩ := kit_ofY I r1 ty
  exact PySem.W.kia_one Z I.kIn p e hx fun tk => ⟨.bl b, H, I.tok tk, rfl, q⟩
theorem call_isiTY : CallR X (.builtin "isinstance") (rIsiTY X.K) := by
  intro pins s σ H xs us Q I r h
  obtain ⟨x, tp, cs, t, ws, b, rfl, hT, k, ty, e, q⟩ := h
  obtain ⟨u1, u2, rfl, r1, r2⟩ := vals2 r
  cases (show u2 = Value.ref tp from r2)
  obtain ⟨P, Z, p, hx⟩ := kit_ofY I r1 ty
  obtain ⟨_, its, rv, o, h1, h2, n, h3⟩ := (show ObjOk X.prog X.w H s.heap tp (.tup cs) from I.hok tp _ hT)
  have e3 := ClsV.all k rv
  subst e3
  obtain ⟨oc, od, dt, sl⟩ := o
  simp only at h2 h3
  subst h2 h3
  exact PySem.W.kia_tup Z I.kIn p h1 e hx fun tk => ⟨.bl b, H, I.tok tk, rfl, q⟩
theorem tyx_of {K : PySem.W.Frag} {a : D} {v : V} {t : Ty} (g : Good G w) (r : RepC G w a v) (e : tyN a = some t) : TyY K w.H v (.type t.name) := by
  cases a <;> first | (cases e; done) | skip
  · cases e; rw [show v = _ from r]; exact .base (.base .non)
  · cases e; rw [show v = _ from r]; exact .base (.base (.bl _))
  · cases e; rw [show v = _ from r]; exact .base (.base (.int _))
  · cases e; rw [show v = _ from r]; exact .base (.base (.str _))
  · cases e; obtain ⟨a, vs, rfl, h, _⟩ := r; exact .base (.base (.lst h))
  · cases e; obtain ⟨a, vs, rfl, h, _⟩ := r; exact .base (.base (.tup (g.shN h rfl)))
  · rename_i b kvs
    cases e; obtain ⟨a, rfl, q⟩ := r
    cases b with
    | false =>
      obtain ⟨kv, h1, _⟩ := q
      rcases h1 with h | ⟨o, h⟩
      · exact .base (.base (.dK h))
      · exact .base (.fDict h)
    | true =>
      obtain ⟨kv, h1, _⟩ := q
      rcases h1 with h | ⟨o, h⟩
      · exact .base (.base (.dT h))
      · exact .fT h
def tysOf : List D → Option (List Ty)
  | [] => some []
  | .ty t :: r => (tysOf r).map (t :: ·)
  | _ => none
def isiD (a : List D) : Option D := match a with
  | [x, .ty t] => (tyN x).map fun u => .bl (isTy u t)
  | [x, .tup cs] => (tyN x).bind fun u => (tysOf cs).map fun ts => .bl (ts.any (isTy u))
  | _ => none
theorem kitAny_tys {K : PySem.W.Frag} {t : Ty} : ∀ ts : List Ty, PySem.W.kitAny K (.type t.name) (ts.map fun u => .type u.name) = some (ts.any (isTy t))
  | [] => rfl
  | u :: ts => by
    rw [List.map_cons, List.any_cons]
    refine kitAny_cons (kit_ty (kit_isTy t u)) (fun e => ?_) (fun e => by rw [e]; rfl)
    rw [e, kitAny_tys ts]; rfl
theorem tys_rep : ∀ {cs : List D} {vs : List V} {ts : List Ty}, Reps G w cs vs → tysOf cs = some ts → Paired ClsV vs (ts.map fun u => Value.type u.name)
  | [], vs, ts, r, e => by cases e; rw [show vs = _ from r]; exact .nil
  | d :: cs, vs, ts, r, e => by
    unfold tysOf at e
    split at e
    · rename_i h; cases h
    · rename_i h
      cases h
      obtain ⟨v, r', rfl, r1, r2⟩ := r
      obtain ⟨us, e1, rfl⟩ := Option.map_eq_some_iff.mp e
      rw [show v = _ from r1, List.map_cons]
      exact .cons (.ty _) (tys_rep r2 e1)
    · cases e
theorem CallR.or {f : Value} {r r' : List V → Hp → VK → Prop} (h : CallR X f r) (h' : CallR X f r') : CallR X f (fun xs H Q => r xs H Q ∨ r' xs H Q) := by
  intro pins s σ H xs us Q I rs q
  rcases q with q | q
  · exact h pins s σ H xs us Q I rs q
  · exact h' pins s σ H xs us Q I rs q
theorem cs_isi : CallS G X (.builtin "isinstance") isiD := ⟨_, CallR.or call_isiY call_isiTY, fun w vs ds z Q gd rs e wn => by
  unfold isiD at e
  split at e
  · rename_i x t
    obtain ⟨u, e1, rfl⟩ := Option.map_eq_some_iff.mp e
    obtain ⟨v, r', rfl, r1, v2, r2', rfl, r2, rfl⟩ := rs
    refine .inl ⟨v, v2, .type u.name, .type t.name, _, rfl, ?_, tyx_of gd r1 e1, kit_ty (kit_isTy u t), wn.here (v := V.bl _) gd rfl⟩
    rw [show v2 = _ from r2]
    exact .ty _
  · rename_i x cs
    obtain ⟨u, e1, e2⟩ := Option.bind_eq_some_iff.mp e
    obtain ⟨ts, e3, rfl⟩ := Option.map_eq_some_iff.mp e2
    obtain ⟨v, r', rfl, r1, v2, r2', rfl, r2, rfl⟩ := rs
    obtain ⟨a, us, rfl, h1, q1⟩ := r2
    exact .inr ⟨v, a, us, .type u.name, _, _, rfl, gd.shN h1 rfl, tys_rep q1 e3, tyx_of gd r1 e1, kitAny_tys ts, wn.here (v := V.bl _) gd rfl⟩
  · cases e⟩
/-- a built-in class as a value -/
theorem se_ty {x : Str} {t : Ty} {pos : Pos} (hg : Gl X x) (hm : X.mg x = none) (hv : bootBuiltins x = some (.type t.name)) (hn : x ≠ "__name__" := by decide) (hd : (x == ("__debug__" : Str)) = false := by decide) : SE G X Wx (.Name x pos) (eC (.ty t)) :=
  PE.imp (pe_bltn hg hm hv (v := V.ty t.name) rfl hn hd) fun σ H Q ⟨w, ρ, e, g, er, p⟩ => by subst e; exact p.ret g rfl
/-! ### conversions -/
def seqOf : D → Option (List D)
  | .lst ds => some ds
  | .tup ds => some ds
  | .scr xs => some (xs.map .int)
  | _ => none
theorem scr_reps : ∀ xs : List Int, Reps G w (xs.map .int) (xs.map V.int)
  | [] => rfl
  | x :: xs => ⟨_, _, rfl, rfl, scr_reps xs⟩
theorem seq_rep {a : D} {v : V} {ds : List D} (eK : G.K = X.K) (gd : Good G w) (r : RepC G w a v) (e : seqOf a = some ds) : ∃ p vs, v = .ref p ∧ (SqL X.K w.H p vs ∨ SqT X.K w.H p vs) ∧ Reps G w ds vs := by
  unfold seqOf at e
  split at e
  · cases e
    obtain ⟨p, vs, rfl, h, q⟩ := r
    exact ⟨p, vs, rfl, .inl (.of h), q⟩
  · cases e
    obtain ⟨p, vs, rfl, h, q⟩ := r
    exact ⟨p, vs, rfl, .inr (.of (gd.shN h rfl)), q⟩
  · cases e
    obtain ⟨p, rfl, h⟩ := r
    exact ⟨p, _, rfl, .inl (scr_sq eK gd h), scr_reps _⟩
  · cases e
/-- list(x) of a list or tuple -/
def listD (a : D) : Option D := (seqOf a).map .lst
def tupleD (a : D) : Option D := match a with
  | .lst ds => some (.tup ds)
  | .tup ds => some (.tup ds)
  | _ => none
theorem cs_list (eK : G.K = X.K) : CallS G X (.type "list") (one listD) := cs_one call_list_of fun w v a z Q gd r e wn => by
  obtain ⟨ds, e1, rfl⟩ := Option.map_eq_some_iff.mp e
  obtain ⟨p, vs, rfl, h, q⟩ := seq_rep eK gd r e1
  exact ⟨p, vs, rfl, h, fun l hl => want_new wn gd (fun _ z => by cases z) hl ⟨l, _, rfl, upd_same, Reps.mono (le_new gd hl) _ _ q⟩⟩
theorem cs_tuple : CallS G X (.type "tuple") (one tupleD) := cs_one call_tuple_of fun w v a z Q gd r e wn => by
  unfold tupleD at e
  split at e
  · cases e
    obtain ⟨p, vs, rfl, h, q⟩ := r
    exact ⟨p, vs, rfl, .inl ⟨.of h, fun l hl => want_new wn gd (fun _ z => by cases z) hl ⟨l, _, rfl, upd_same, Reps.mono (le_new gd hl) _ _ q⟩⟩⟩
  · cases e
    obtain ⟨p, vs, rfl, h, q⟩ := r
    exact ⟨p, vs, rfl, .inr ⟨.of (gd.shN h rfl), wn.here gd ⟨p, vs, rfl, h, q⟩⟩⟩
  · cases e
/-! ### all, any, sum -/
def blsOf : List D → Option (List Bool)
  | [] => some []
  | .bl b :: r => (blsOf r).map (b :: ·)
  | _ => none
def intsOf : List D → Option (List Int)
  | [] => some []
  | .int b :: r => (intsOf r).map (b :: ·)
  | _ => none
theorem bls_rep : ∀ {cs : List D} {vs : List V} {ts : List Bool}, Reps G w cs vs → blsOf cs = some ts → vs = ts.map V.bl
  | [], vs, ts, r, e => by cases e; exact r
  | d :: cs, vs, ts, r, e => by
    unfold blsOf at e
    split at e
    · rename_i h; cases h
    · rename_i h
      cases h
      obtain ⟨v, r', rfl, r1, r2⟩ := r
      obtain ⟨us, e1, rfl⟩ := Option.map_eq_some_iff.mp e
      rw [show v = _ from r1, List.map_cons, bls_rep r2 e1]
    · cases e
theorem ints_rep : ∀ {cs : List D} {vs : List V} {ts : List Int}, Reps G w cs vs → intsOf cs = some ts → vs = ts.map V.int
  | [], vs, ts, r, e => by cases e; exact r
  | d :: cs, vs, ts, r, e => by
    unfold intsOf at e
    split at e
    · rename_i h; cases h
    · rename_i h
      cases h
      obtain ⟨v, r', rfl, r1, r2⟩ := r
      obtain ⟨us, e1, rfl⟩ := Option.map_eq_some_iff.mp e
      rw [show v = _ from r1, List.map_cons, ints_rep r2 e1]
    · cases e
def allD (a : D) : Option D := match a with
  | .lst ds => (blsOf ds).map fun bs => .bl (bs.all id)
  | _ => none
def anyD (a : D) : Option D := match a with
  | .lst ds => (blsOf ds).map fun bs => .bl (bs.any id)
  | _ => none
def sumD (a : D) : Option D := match a with
  | .lst ds => (intsOf ds).map fun bs => .int bs.sum
  | _ => none
theorem cs_all (vc : VC G X k Wx) : CallS G X (.builtin "all") (one allD) := cs_one (cr_all vc.calm) fun w v a z Q gd r e wn => by
  unfold allD at e
  split at e
  · obtain ⟨bs, e1, rfl⟩ := Option.map_eq_some_iff.mp e
    obtain ⟨p, vs, rfl, h, q⟩ := r
    rw [bls_rep q e1] at h
    exact ⟨p, bs, rfl, .of h, wn.here (v := V.bl _) gd rfl⟩
  · cases e
theorem cs_any (vc : VC G X k Wx) : CallS G X (.builtin "any") (one anyD) := cs_one (cr_any vc.calm) fun w v a z Q gd r e wn => by
  unfold anyD at e
  split at e
  · obtain ⟨bs, e1, rfl⟩ := Option.map_eq_some_iff.mp e
    obtain ⟨p, vs, rfl, h, q⟩ := r
    rw [bls_rep q e1] at h
    exact ⟨p, bs, rfl, .of h, wn.here (v := V.bl _) gd rfl⟩
  · cases e
theorem cs_sum (vc : VC G X k Wx) : CallS G X (.builtin "sum") (one sumD) := cs_one (cr_sum vc.calm) fun w v a z Q gd r e wn => by
  unfold sumD at e
  split at e
  · obtain ⟨bs, e1, rfl⟩ := Option.map_eq_some_iff.mp e
    obtain ⟨p, vs, rfl, h, q⟩ := r
    rw [ints_rep q e1] at h
    exact ⟨p, bs, rfl, .of h, wn.here (v := V.int _) gd rfl⟩
  · cases e
/-! ### abs, max, min of two -/
def absD (a : D) : Option D := match a with
  | .int i => some (.int (if i < 0 then -i else i))
  | _ => none
theorem cs_abs : CallS G X (.builtin "abs") (one absD) := cs_one call_abs fun w v a z Q gd r e wn => by
  unfold absD at e
  split at e
  · cases e
    exact ⟨_, by rw [show v = _ from r], wn.here (v := V.int _) gd rfl⟩
  · cases e
def maxD2 (as : List D) : Option D := match as with
  | [.int i, .int j] => some (.int (if j > i then j else i))
  | _ => none
def minD2 (as : List D) : Option D := match as with
  | [.int i, .int j] => some (.int (if j < i then j else i))
  | _ => none
theorem cs_max2 (vc : VC G X k Wx) : CallS G X (.builtin "max") maxD2 := ⟨_, call_max2 vc.calm, fun w vs ds z Q gd rs e wn => by
  unfold maxD2 at e
  split at e
  · rename_i i j
    cases e
    obtain ⟨v, r', rfl, r1, v2, r2', rfl, r2, rfl⟩ := rs
    obtain rfl : v = V.int i := r1
    obtain rfl : v2 = V.int j := r2
    exact ⟨i, j, rfl, wn.here (v := V.int _) gd rfl⟩
  · cases e⟩
theorem cs_min2 (vc : VC G X k Wx) : CallS G X (.builtin "min") minD2 := ⟨_, call_min2 vc.calm, fun w vs ds z Q gd rs e wn => by
  unfold minD2 at e
  split at e
  · rename_i i j
    cases e
    obtain ⟨v, r', rfl, r1, v2, r2', rfl, r2, rfl⟩ := rs
    obtain rfl : v = V.int i := r1
    obtain rfl : v2 = V.int j := r2
    exact ⟨i, j, rfl, wn.here (v := V.int _) gd rfl⟩
  · cases e⟩
end
end VL
set_option Elab.async false
set_option linter.all false
set_option maxRecDepth 100000
set_option maxHeartbeats 4000000
namespace VL
open PySem PySem.Spec PyProof.Rows L2
section
variable {G : Gm} {X : Cx} {k : Nat} {Wx : WX} {σ : L2.St} {w w' : Wd} {ρ : Rho} {Dn : Ends}
/-! ### * -/
theorem tuple_mul1 (l : Addr) (items : Array Value) (n : Nat) (dd : Option Addr) (sl : Array (Option Value)) (u : Tok) :
    Meets (Builtin.«tuple.__mul__» ⟨[.ref l, .int 1 u], []⟩) (fun _ R s => s.heap.get? l = some { cls := .type "tuple", dict := dd, data := .seq items n, slots := sl } ∧
      R (.ok (.ret (Value.ref l))) s) :=
  .of_wp fun prog w A R s h => by
    obtain ⟨hp, g, d, tk, os⟩ := s
    obtain ⟨hl, h⟩ := h
    have f1 := AutoSeq1.idx_int
    have c0 : (decide ((1 : Int) < -(2 ^ 63)) || decide ((1 : Int) ≥ 2 ^ 63)) = false := by decide
    have c1 : (items.isEmpty || (1 : Int) == 1) = true := by simp
    wp_walk using wpAny_loadPart' hl
    repeat (first
      | (refine wpAny_ite_false (decide_eq_false (by rw [c0]; exact Bool.false_ne_true)) ?_; wp_walk using wpAny_loadPart' hl)
      | (refine wpAny_ite_true (decide_eq_true (by rw [c1])) ?_; wp_walk using wpAny_loadPart' hl))
    exact ⟨_, rfl, h⟩
def rRep1 (K : PySem.W.Frag) : R2 := fun x y H Q => ∃ l xs, x = .ref l ∧ y = .int 1 ∧ SqT K H l xs ∧ Q (.ref l) H
theorem op_rep1 : OpR X (binaryOp .Mult) (rRep1 X.K) := by
  intro pins s σ H x y v u Q I rx ry h
  obtain ⟨l, xs, rfl, rfl, hT, q⟩ := h
  cases rx
  obtain ⟨t, rfl⟩ := ry
  obtain ⟨its, r, ⟨⟨cls, dd, data, sl⟩, ho, hc, n, hd⟩, hs⟩ := I.tuple hT
  simp only at hc hd
  subst hc hd
  exact wpAny_binaryOp_repeat_ref (T := "tuple") (U := "int") (by decide) ⟨_, ho, rfl⟩ (fun s' => typeIs_int s' 1 t) noFill_tuple_mul F.fills_int_mul F.slot_int_rmul repeat_tuple F.slot_int_index.lookup
    (call_meets F.slot_int_rmul (typeIs_int s 1 t) F.entry_int_rmul (F.args_int_rmul_2 _ _) (int_rmul_tuple 1 t l its.toArray n dd sl)
      ⟨ho, rfl, ⟨_, ho, rfl⟩, call_meets F.slot_tuple_mul ⟨_, ho, rfl⟩ F.entry_tuple_mul (F.args_tuple_mul_2 _ _) (tuple_mul1 l its.toArray n dd sl t) ⟨ho, .ref l, H, I, rfl, q⟩⟩)
theorem rep_flat {ds : List D} {vs : List V} (r : Reps G w ds vs) : ∀ n : Nat, Reps G w (List.replicate n ds).flatten (List.replicate n vs).flatten
  | 0 => rfl
  | n + 1 => by
    rw [List.replicate_succ, List.replicate_succ, List.flatten_cons, List.flatten_cons]
    exact r.append (rep_flat r n)
def mulS (a b : D) : Option D := match a, b with
  | .int i, .int j => if CMulD i j then some (.int (i * j)) else none
  | .tup ds, .int n => if n = 1 then some (.tup ds) else if ds ≠ [] ∧ 2 ≤ n ∧ n ≤ 1000 ∧ ds.length ≤ 1000 then some (.tup ((List.replicate n.toNat ds).flatten)) else none
  | .lst ds, .int n => if -(2 ^ 63) ≤ n ∧ n < 2 ^ 63 ∧ ds.length * n.toNat ≤ sizeLine then some (.lst ((List.replicate n.toNat ds).flatten)) else none
  | _, _ => none
theorem os_mul : OpS G X (binaryOp .Mult) mulS := by
  refine ⟨_, (op_mul.or op_rep1).or (op_repT.or op_rep), fun w v u a b z Q gd r1 r2 p wn => ?_⟩
  unfold mulS at p
  split at p
  · rename_i i j
    split at p
    · rename_i hc
      cases p
      exact .inl (.inl ⟨i, j, r1, r2, hc.ok, wn.here (v := V.int _) gd rfl⟩)
    · cases p
  · rename_i ds n
    obtain ⟨a1, vs, rfl, h1, q1⟩ := r1
    split at p
    · rename_i e
      cases p
      subst e
      exact .inl (.inr ⟨a1, vs, rfl, r2, .of (gd.shN h1 rfl), wn.here gd ⟨a1, vs, rfl, h1, q1⟩⟩)
    · split at p
      · rename_i hc
        cases p
        obtain ⟨c1, c2, c3, c4⟩ := hc
        have ln := q1.length
        refine .inr (.inl ⟨a1, n, vs, rfl, r2, .of (gd.shN h1 rfl), fun e => c1 ?_, c2, c3, by omega, fun p hp => want_new wn gd (fun _ z => by cases z) hp ⟨p, _, rfl, upd_same, rep_flat (Reps.mono (le_new gd hp) _ _ q1) _⟩⟩)
        rw [e] at ln
        exact List.length_eq_zero_iff.mp ln.symm
      · cases p
  · rename_i ds n
    split at p
    · rename_i hc
      cases p
      obtain ⟨a1, vs, rfl, h1, q1⟩ := r1
      have ln := q1.length
      exact .inr (.inr ⟨a1, n, vs, rfl, r2, h1, hc.1, hc.2.1, by rw [ln]; exact hc.2.2, fun p hp => want_new wn gd (fun _ z => by cases z) hp ⟨p, _, rfl, upd_same, rep_flat (Reps.mono (le_new gd hp) _ _ q1) _⟩⟩)
    · cases p
  · cases p
/-! ### sorted -/
def pyOf (d : D) : PyData := (toPy d).getD .none
def alikeB (ds : List PyData) : Bool := ds.all fun d => ds.all fun e => PySem.W.alike d e
def tupleB : PyData → Bool
  | .tuple (_ :: _) => true
  | _ => false
def plainB : PyData → Bool
  | .tuple _ => false
  | .none => false
  | _ => true
def isTupB : PyData → Bool
  | .tuple _ => true
  | _ => false
/-- tuples, the first of them empty -/
def emptyB : List PyData → Bool
  | .tuple [] :: r => r.all isTupB
  | _ => false
def sortableB (ds : List PyData) : Bool := (ds.all tupleB || ds.all plainB) || emptyB ds
theorem alikeB_ok {ds : List PyData} (h : alikeB ds = true) : PySem.W.AllAlike ds := fun d hd e he => List.all_eq_true.mp (List.all_eq_true.mp h d hd) e he
theorem sortableB_ok {ds : List PyData} (h : (ds.all tupleB || ds.all plainB) = true) : PySem.W.Sortable ds := by
  rcases Bool.or_eq_true .. ▸ h with h | h
  · refine .inl fun d hd => ?_
    have := List.all_eq_true.mp h d hd
    unfold tupleB at this
    split at this
    · exact ⟨_, _, rfl⟩
    · cases this
  · refine .inr fun d hd => ?_
    have := List.all_eq_true.mp h d hd
    unfold plainB at this
    split at this
    · cases this
    · cases this
    · rename_i h1 h2
      exact ⟨h2, fun xs e => h1 xs e⟩
/-! tuples sorted, the first of them empty: compared by the tuple's own __lt__ -/
section
open PySem.Calls PySem.SeqAt PySem.W
variable {prog : Program} {w : World} {A : Around} {s : Shared}
theorem call_tuple_lt {E : Value → Shared → Prop} {Q : Value → Shared → Prop} {l b : Addr} {items items2 : Array Value} {e r : Nat → Bool} (hl : s.heap.IsTuple l items) (hb : s.heap.IsTuple b items2)
    (he : ∀ j (h1 : j < items.size) (h2 : j < items2.size), EqAt A.in1 s items[j] items2[j] (e j)) (hr : ∀ j (h1 : j < items.size) (h2 : j < items2.size), e j = false → RcLt A.in1 s items[j] items2[j] (r j))
    (h : Q (.bool (firstLt e r (decide (items.size < items2.size)) (List.range (min items.size items2.size)))) s) : wpAny (model prog w) A (call (.builtin "tuple.__lt__") [.ref l, .ref b]) Q E s := by
  obtain ⟨⟨cls, dd, data, sl⟩, ho, hc, n, hd⟩ := id hl
  obtain ⟨⟨cls2, dd2, data2, sl2⟩, ho2, hc2, n2, hd2⟩ := id hb
  simp only at hc hd hc2 hd2
  subst hc hd hc2 hd2
  exact call_meets F.slot_tuple_lt ⟨_, ho, rfl⟩ F.entry_tuple_lt (F.args_tuple_lt_2 _ _) (tuple_ltAt l b items items2 n n2 dd dd2 sl sl2 e r) ⟨ho, ho2, he, hr, h⟩
theorem oneLt_tup {E : Value → Shared → Prop} {xs ys : List PyData} {a b : Value} {as bs : List Addr} {Q : Bool → Shared → Prop} (ra : Reads s.heap a (.tuple xs) as) (rb : Reads s.heap b (.tuple ys) bs) (h : PySem.W.alike (.tuple xs) (.tuple ys) = true)
    (hu : A.units + min (PyData.tuple xs).depth (PyData.tuple ys).depth < cLine) (hq : Q (dataLt (.tuple xs) (.tuple ys)) s) : wpAny (model prog w) A (oneLt' true a b) Q E s := by
  have hal : alikeAll xs ys = true := by simpa [PySem.W.alike] using h
  cases ra with
  | @tuple l o vs n _ as₁ h1 h2 h3 h4 =>
    cases rb with
    | @tuple l' o' vs' n' _ bs₁ k1 k2 k3 k4 =>
      have n1 : vs.size = xs.length := by simpa using ReadsAll.length _ _ _ h4
      have n2 : vs'.size = ys.length := by simpa using ReadsAll.length _ _ _ k4
      rw [dataLt_tuple, ← firstLt_toks xs ys hal, ← n1, ← n2] at hq
      rw [oneLt'_eq]
      simp only [if_true]
      refine wpAny_bind (wpAny_cRoomFor (room_here hu) ?_)
      refine wpAny_bind (wpAny_callSpecialIfBound?_slot (T := "tuple") ⟨_, h1, h2⟩ F.slot_tuple_lt (call_tuple_lt (e := pairEq xs ys) (r := fun j => dataLt (xs.getD j .none) (ys.getD j .none)) ⟨_, h1, h2, _, h3⟩ ⟨_, k1, k2, _, k3⟩ (fun j j1 j2 => ?_) (fun j j1 j2 hj => ?_) ?_))
      · have := eqAt_alikeAll xs ys A.in1 s vs.toList vs'.toList _ _ h4 k4 hal (room_in hu) j (by simpa using j1) (by simpa using j2)
        simpa using this
      · have := rcLt_alikeAll xs ys A.in1 s vs.toList vs'.toList _ _ h4 k4 hal (room_in hu) j (by simpa using j1) (by simpa using j2) hj
        simpa using this
      · exact wpAny_truthy_bool hq
/-- the first items of tuples, empty ones too -/
def FstAt (h : Heap) (v : Value) (f : Option Value) : Prop := ∃ a o xs n, v = .ref a ∧ h.get? a = some o ∧ o.cls = .type "tuple" ∧ o.data = .seq xs n ∧ xs[0]? = f
theorem firsts_opt {M : Model} {E : Value → Shared → Prop} : ∀ (vs : List Value) (fs : List (Option Value)) {Q : List (Option Value) → Shared → Prop}, EachIs (FstAt s.heap) vs fs → Q fs s → wpAny M A (vs.mapM firstOfTuple') Q E s
  | [], _, _, .nil, h => by rw [List.mapM_nil]; exact wpAny_pure h
  | v :: vs, f :: fs, Q, .cons t1 t2, h => by
    obtain ⟨a, o, xs, n, rfl, ho, hc, hd, hf⟩ := t1
    rw [List.mapM_cons]
    refine wpAny_bind ?_
    rw [kas_first_eq]
    refine wpAny_bind (Looks.here (show Looks M s.heap (typeOf (.ref a)) o.cls from (Looks.ld ho).andThen .now) ?_)
    rw [hc, if_neg (by first | decide | simp)]
    refine wpAny_bind (listItems_at ho hd (wpAny_pure ?_))
    rw [hf]
    exact wpAny_bind (firsts_opt vs fs (Q := fun bs s' => wpAny M A (pure (f :: bs)) Q E s') t2 (wpAny_pure h))
theorem kind_tuples0 {M : Model} {E : Value → Shared → Prop} {vs : List Value} {fs : List (Option Value)} {Q : SortKind → Shared → Prop} (t : EachIs (FstAt s.heap) vs (none :: fs)) (hT : ∀ v ∈ vs, Looks M s.heap (typeOf v) (.type "tuple")) (h : Q oneType' s) : wpAny M A (keyKind' vs.toArray) Q E s := by
  obtain ⟨v₁, rest, rfl⟩ : ∃ v₁ rest, vs = v₁ :: rest := by
    cases t with
    | cons _ _ => exact ⟨_, _, rfl⟩
  rw [keyKind'_eq, List.mapM_toArray, map_eq_pure_bind]
  refine wpAny_bind (wpAny_bind (firsts_opt _ _ t (wpAny_pure ?_)))
  rw [if_neg (by simp), if_neg (by simp)]
  rw [oneTypeOnly'_eq, List.mapM_toArray, map_eq_pure_bind]
  refine wpAny_bind (wpAny_bind (wpAny_bind (kas_mapM (r := Value.type "tuple") _ (fun v hv Q' hq => (hT v hv).here hq) (wpAny_pure ?_))))
  have hall : ((List.map (fun _ => Value.type "tuple") (v₁ :: rest)).toArray.all fun x => x == Value.type "tuple") = true := by
    simp only [List.all_toArray, List.all_map, List.all_eq_true]
    intro _ _
    exact beq_self_eq_true (Value.type "tuple")
  have h0 : (List.map (fun _ => Value.type "tuple") (v₁ :: rest)).toArray[0]? = some (Value.type "tuple") := by simp
  rw [h0]
  simp only [hall, if_true]
  exact wpAny_pure (wpAny_pure h)
theorem each_fst {h : Heap} : ∀ {vs : List Value} {ds : List PyData}, EachIs (fun v d => ∃ as, Reads h v d as) vs ds → ds.all isTupB = true → ∃ fs, EachIs (FstAt h) vs fs ∧ ∀ d, ds[0]? = some d → d = .tuple [] → fs[0]? = some none
  | _, _, .nil, _ => ⟨[], .nil, fun d e _ => by simp at e⟩
  | v :: vs, d :: ds, .cons ⟨as, r⟩ t, ht => by
    rw [List.all_cons, Bool.and_eq_true] at ht
    obtain ⟨fs, h1, _⟩ := each_fst t ht.2
    cases d with
    | tuple ys =>
      cases r with
      | @tuple a o xs n _ _ ho hc hd hr =>
        refine ⟨xs[0]? :: fs, .cons ⟨a, o, xs, n, rfl, ho, hc, hd, rfl⟩ h1, fun d e e2 => ?_⟩
        simp at e
        subst e
        obtain rfl : ys = [] := by injection e2
        have n1 : xs.size = 0 := by simpa using ReadsAll.length _ _ _ hr
        simp [n1]
    | _ => cases ht.1
theorem sortsAt_t0 {vs : List Value} {ds : List PyData} (e : EachIs (fun v d => ∃ as, Reads s.heap v d as) vs ds) (hal : AllAlike ds) (hk : emptyB ds = true) (hu : ∀ d, d ∈ ds → A.units + d.depth < cLine) : SortsAt prog w A s (dataKind s.heap ds) vs := by
  obtain ⟨r, rfl, hr⟩ : ∃ r, ds = .tuple [] :: r ∧ r.all isTupB = true := by
    unfold emptyB at hk
    split at hk
    · exact ⟨_, rfl, hk⟩
    · cases hk
  have ha : (PyData.tuple [] :: r).all isTupB = true := by rw [List.all_cons, hr]; rfl
  have tup : ∀ d, d ∈ PyData.tuple [] :: r → ∃ xs, d = .tuple xs := fun d hd => by
    have := List.all_eq_true.mp ha d hd
    cases d <;> first | exact ⟨_, rfl⟩ | cases this
  refine ⟨fun v hv => ?_, oneType', ?_, fun h2 E Q hq => ?_⟩
  · obtain ⟨d, hd, as, r⟩ := e.left v hv
    exact ⟨_, dataKind_some hal hd r⟩
  · intro E x y a b Q ha hb hq
    obtain ⟨d, as, hd, ra, rfl⟩ := dataKind_inv ha
    obtain ⟨d', as', hd', rb, rfl⟩ := dataKind_inv hb
    rw [keyLt'_oneType]
    obtain ⟨xs, rfl⟩ := tup d hd
    obtain ⟨ys, rfl⟩ := tup d' hd'
    exact oneLt_tup ra rb (hal _ hd _ hd') (Nat.lt_of_le_of_lt (Nat.add_le_add_left (Nat.min_le_left _ _) _) (hu _ hd)) hq
  · obtain ⟨fs, f1, f2⟩ := each_fst e ha
    have f3 := f2 _ rfl rfl
    match fs, f3 with
    | none :: fs, _ =>
      refine kind_tuples0 f1 (fun v hv => ?_) hq
      obtain ⟨d, hd, as, r⟩ := e.left v hv
      obtain ⟨xs, rfl⟩ := tup d hd
      exact looks_reads r
theorem sortsAt_b {vs : List Value} {ds : List PyData} (e : EachIs (fun v d => ∃ as, Reads s.heap v d as) vs ds) (hal : AllAlike ds) (hk : sortableB ds = true) (hu : ∀ d, d ∈ ds → A.units + d.depth < cLine) : SortsAt prog w A s (dataKind s.heap ds) vs := by
  rcases Bool.or_eq_true .. ▸ hk with h | h
  · exact SortsAt.data e hal (sortableB_ok h) hu
  · exact sortsAt_t0 e hal h hu
end
def sortL (ds : List D) : Option (List D) :=
  if ds.length < 2 then some ds
  else if (ds.all fun d => (toPy d).isSome) = true ∧ alikeB (ds.map pyOf) = true ∧ sortableB (ds.map pyOf) = true ∧ (ds.all fun d => decide ((pyOf d).depth ≤ 60)) = true ∧ ds.length ≤ sizeLine then some (ds.mergeSort (PySem.W.dataLe false pyOf))
  else none
theorem swo0 : SrtO.Swo fun (_ _ : Value) => false := ⟨fun _ _ h => (nomatch h), fun _ _ _ _ _ => rfl⟩
/-! ### adopting a tuple -/
def Wd.adopt (w : Wd) (a : Addr) (xs : List V) : Wd := { w with Hs := upd w.Hs a (.tup xs) }
theorem adopt_hs {a : Addr} {xs : List V} (g : Good G w) (h : w.H a = some (.tup xs)) : ∀ b o, w.Hs b = some o → upd w.Hs a (.tup xs) b = some o := fun b o e => by
  by_cases hb : b = a
  · subst hb
    rw [upd_same]
    rcases g.sh b o e with z | ⟨od, z, _⟩ <;> (rw [h] at z; cases z; first | rfl | skip)
  · rw [upd_ne hb]; exact e
theorem le_adopt {a : Addr} {xs : List V} (g : Good G w) (h : w.H a = some (.tup xs)) : Le w (w.adopt a xs) :=
  ⟨adopt_hs g h, Nat.le_refl _, fun _ _ => rfl, fun _ _ h _ _ => h, fun b o e hp hs _ => by
    show upd w.Hs a (.tup xs) b = none
    rw [upd_ne (fun z => by rw [z, h] at e; cases e; cases hp)]; exact hs, fun i h1 h2 => absurd h2 (Nat.not_lt.mpr h1), fun _ h => h⟩
theorem repO_tup {a : Addr} {x : O} {xs : List V} (al : x.alive = true) (r : RepO G w a x) : w.H a ≠ some (.tup xs) := fun e => by
  cases x with
  | lst ds => obtain ⟨vs, h1, _⟩ := r; rw [e] at h1; cases h1
  | dic t kvs => cases t <;> (obtain ⟨kv, h1, _⟩ := r; rw [e] at h1; cases h1)
  | lck t kvs => cases t <;> (obtain ⟨_, kv, h1, _⟩ := r; rw [e] at h1; cases h1)
  | ins c fs => obtain ⟨_, vs, h1, _⟩ := r; rw [e] at h1; cases h1
  | dead => cases al
theorem good_adopt {a : Addr} {xs : List V} (g : Good G w) (h : w.H a = some (.tup xs)) : Good G (w.adopt a xs) := by
  have l := le_adopt g h
  refine ⟨fun b o e => ?_, fun i x e al => ?_, g.inj, g.tb, fun b ps e => ?_, g.th⟩
  · have e' : upd w.Hs a (.tup xs) b = some o := e
    by_cases hb : b = a
    · subst hb; rw [upd_same] at e'; cases e'; exact .inl h
    · rw [upd_ne hb] at e'; exact g.sh b o e'
  · obtain ⟨h1, h2⟩ := g.ob i x e al
    refine ⟨?_, h2.mono l rfl⟩
    show upd w.Hs a (.tup xs) (w.μ i) = none
    rw [upd_ne (fun z => repO_tup al h2 (by rw [z]; exact h))]; exact h1
  · have e' : upd w.Hs a (.tup xs) b = some (.tbl ps) := e
    by_cases hb : b = a
    · subst hb; rw [upd_same] at e'; cases e'
    · rw [upd_ne hb] at e'; exact g.nt b ps e'
/-- the key of a dict with tuple keys, as data -/
theorem keyL_reps : ∀ {ds : List D} {ks : List Key}, toKeyL ds = some ks → Reps G w ds (ks.map kV)
  | [], ks, e => by cases e; rfl
  | d :: ds, ks, e => by
    unfold toKeyL at e
    split at e
    · rename_i k ks' e1 e2
      cases e
      refine ⟨_, _, rfl, ?_, keyL_reps e2⟩
      cases d <;> first | (cases e1; done) | skip
      · cases e1; rfl
      · cases e1; rfl
    · cases e
theorem key_rep {d : D} {kk : Key} (e : toKey d = some kk) : Rep G w d (kV kk) := by
  cases d <;> first | (cases e; done) | skip
  · cases e; rfl
  · cases e; rfl
theorem keyT_adopt {d : D} {ks : List Key} {b : Addr} (g : Good G w) (e : toKeys d = some ks) (h : w.H b = some (.tup (ks.map kV))) : ∃ w', Le w w' ∧ Good G w' ∧ w'.H = w.H ∧ w'.W = w.W ∧ Rep G w' d (.ref b) := by
  cases d <;> first | (cases e; done) | skip
  exact ⟨w.adopt b (ks.map kV), le_adopt g h, good_adopt g h, rfl, rfl, b, _, rfl, upd_same, keyL_reps e⟩
theorem repK_keys : ∀ {kvs : List (D × D)} {kv : List (Key × V)}, RepK G w kvs kv → Reps G w (kvs.map (·.1)) (kv.map fun p => kV p.1)
  | [], kv, r => by rw [show kv = _ from r]; rfl
  | (k', d) :: ds, kv, r => by
    obtain ⟨k2, v, r', rfl, e, r1, r2⟩ := r
    exact ⟨_, _, rfl, key_rep e, repK_keys r2⟩
theorem repT_keys : ∀ {kvs : List (D × D)} {kv : List (List Key × V)} {bs : List Addr} {w : Wd}, Good G w → RepT G w kvs kv → IsKeys w.H kv bs → ∃ w', Le w w' ∧ Good G w' ∧ w'.H = w.H ∧ w'.W = w.W ∧ Reps G w' (kvs.map (·.1)) (bs.map V.ref)
  | [], kv, bs, w, g, r, ik => by
    have e : kv = [] := r
    subst e
    cases ik
    exact ⟨w, Le.refl w, g, rfl, rfl, rfl⟩
  | (k', d) :: ds, kv, bs, w, g, r, ik => by
    obtain ⟨k2, v, r', rfl, e, r1, r2⟩ := r
    cases ik with
    | cons h t =>
      obtain ⟨w1, l1, g1, eH1, eW1, q1⟩ := keyT_adopt g e h
      obtain ⟨w2, l2, g2, eH2, eW2, q2⟩ := repT_keys g1 (RepT.mono l1 _ _ r2) (by rw [eH1]; exact t)
      exact ⟨w2, l1.trans l2, g2, eH2.trans eH1, eW2.trans eW1, _, _, rfl, Rep.mono l2 _ _ q1, q2⟩
/-! ### what can be walked through -/
def iterOf : D → Option (List D)
  | .dic _ kvs => some (kvs.map (·.1))
  | d => seqOf d
/-- collecting -/
def Collects (X : Cx) (A : Around) (u : Value) (s : Shared) (vs : List V) : Prop := ∀ (E : Value → Shared → Prop) (Q : List Value → Shared → Prop),
  (∀ h' tk its, (∀ b o, s.heap.get? b = some o → h'.get? b = some o) → Vals vs its → its.length ≤ sizeLine → Q its { s with heap := h', toks := tk }) → wpAny (model X.prog X.w) A (collect u) Q E s
theorem collects_seq {a : Addr} {its : List Value} {vs : List V} {s : Shared} {A : Around} (h : s.heap.IsList a its.toArray ∨ s.heap.IsTuple a its.toArray) (rv : Vals vs its) (hz : its.length ≤ sizeLine) : Collects X A (.ref a) s vs := fun E Q q => by
  rcases h with ⟨o, h1, h2, n, h3⟩ | ⟨o, h1, h2, n, h3⟩
  · exact wpAny_collect_seq a (.inl rfl) h1 h2 h3 (fun h' hk => q h' s.toks its hk rv hz) (by rw [List.size_toArray]; exact hz)
  · exact wpAny_collect_seq a (.inr rfl) h1 h2 h3 (fun h' hk => q h' s.toks its hk rv hz) (by rw [List.size_toArray]; exact hz)
/-- collecting what a value walks through -/
theorem iter_collect {a : D} {v : V} {u : Value} {ds : List D} {s : Shared} {pins : List (Addr × Obj)} {A : Around} (eK : G.K = X.K) (hh : A.handled = none) (gd : Good G w) (I : Inv X pins σ w.H s) (r : RepC G w a v) (ru : RelV v u) (e : iterOf a = some ds) :
    ∃ w' vs, Le w w' ∧ Good G w' ∧ w'.H = w.H ∧ w'.W = w.W ∧ Reps G w' ds vs ∧ Collects X A u s vs := by
  have sq : ∀ ds, seqOf a = some ds → ∃ w' vs, Le w w' ∧ Good G w' ∧ w'.H = w.H ∧ w'.W = w.W ∧ Reps G w' ds vs ∧ Collects X A u s vs := fun ds e => by
    obtain ⟨p, vs, rfl, h, q⟩ := seq_rep eK gd r e
    obtain rfl : u = .ref p := ru
    rcases h with h | h
    · obtain ⟨its, rv, pl, hz⟩ := I.list h
      exact ⟨w, vs, Le.refl w, gd, rfl, rfl, q, collects_seq (.inl pl.isList) rv (by rw [← rv.length]; exact hz)⟩
    · obtain ⟨its, rv, pl, hz⟩ := I.tuple h
      exact ⟨w, vs, Le.refl w, gd, rfl, rfl, q, collects_seq (.inr pl) rv (by rw [← rv.length]; exact hz)⟩
  cases a with
  | dic t kvs =>
    cases e
    obtain ⟨p, rfl, q⟩ := r
    obtain rfl : u = .ref p := ru
    cases t with
    | false =>
      obtain ⟨kv, hd, q⟩ := q
      obtain ⟨z, lo, vs, rel, dd⟩ := dk_rd I.hok hd
      obtain ⟨ep, hat⟩ := dd.dictAt
      have ek : (kv.map fun kv => kV kv.1) = vs.map fun p => kV p.1 := by
        have e := congrArg (List.map kV) rel.keys
        rw [List.map_map, List.map_map] at e
        exact e
      have hl : vs.length ≤ sizeLine := by rw [← rel.length]; exact z
      refine ⟨w, _, Le.refl w, gd, rfl, rfl, repK_keys q, fun E Q qq => ?_⟩
      refine PySem.W.kdu_collect (PySem.W.kdl_dict (prog := X.prog) (w := X.w) (knd := mixKind X.prog X.w) (kvs := vs) (ep := ep) lo) hh hat hl fun h' tk acc hk hacc => ?_
      have hv : Vals (vs.map fun p => kV p.1) acc.toList := keys_at (by rw [Array.length_toList]; exact hacc.1) fun j v e => hacc.2 j v (by rw [← Array.getElem?_toList]; exact e)
      refine qq h' tk acc.toList hk (by rw [ek]; exact hv) ?_
      rw [Array.length_toList, hacc.1]; exact hl
    | true =>
      obtain ⟨kv, hd, q⟩ := q
      obtain ⟨z, hs, ks, pr, o, es, ep, ho, hx, hdt, he, hn⟩ := (show ObjOk X.prog X.w w.H s.heap p (.dT kv) from hd.ok I.hok)
      have l1 : es.size = ks.length := size_of_entries he
      have l2 : kv.length = ks.length := Paired.length pr
      obtain ⟨w', l, g', eH, eW, qr⟩ := repT_keys gd q (isKeys_of pr)
      refine ⟨w', _, l, g', eH, eW, qr, fun E Q qq => ?_⟩
      refine PySem.W.kdu_collect (kdl_raw hs hx hdt) hh ho (by omega) fun h' tk acc' hk it => ?_
      have ea : acc'.toList = ks.map fun x => Value.ref x.2.1 := by
        have hl : acc'.toList.length = ks.length := by rw [Array.length_toList, it.1]; exact l1
        apply List.ext_getElem?
        intro j
        rw [List.getElem?_map]
        cases hj : acc'.toList[j]? with
        | none =>
          have h1 := List.getElem?_eq_none_iff.mp hj
          rw [List.getElem?_eq_none (by omega)]
          all_goals rfl
        | some v =>
          obtain ⟨en, hen, hv⟩ := it.2 j v (by rw [← Array.getElem?_toList]; exact hj)
          have qe := entry_at he j
          rw [hen] at qe
          cases hb : ks[j]? with
          | none =>
            rw [hb] at qe
            exact nomatch (show some en = none from qe)
          | some b =>
            rw [hb] at qe
            have e2 : en = entryOfKey (tupleKind (mixKind X.prog X.w)) b := Option.some.inj qe
            rw [hv, e2]
            all_goals rfl
      have eb : acc'.toList = (ks.map fun x => x.2.1).map Value.ref := by rw [ea, List.map_map]; all_goals rfl
      refine qq h' tk acc'.toList hk (by rw [eb]; exact vals_refs _) ?_
      rw [Array.length_toList, it.1]; omega
  | _ => exact sq ds e
/-- sorted(x) is list.sort on a new list -/
theorem sorted_any {u : Value} {vs : List V} {s : Shared} {A : Around} {E : Value → Shared → Prop} {Q : Value → Shared → Prop} (hc : Collects X A.in1 u s vs)
    (hs : ∀ (h' : Heap) tk its, (∀ b o, s.heap.get? b = some o → h'.get? b = some o) → Vals vs its → its.length ≤ sizeLine → wpAny (model X.prog X.w) A.in1.in1 (Builtin.«list.sort» ⟨[.ref h'.objs.size], []⟩) (fun f s' => f = .done (.ret .none) ∧ Q (.ref h'.objs.size) s') E
      { s with heap := h'.push (seqObj "list" its.toArray 0), toks := tk }) : wpAny (model X.prog X.w) A (call (.builtin "sorted") [u]) Q E s := by
  refine Calls.call_function_entry PyProof.Rows.kind_sorted PyProof.Rows.plain_sorted PyProof.Rows.entry_sorted (PyProof.Rows.args_sorted1 _) ?_
  unfold Builtin.«sorted»
  refine wpAny_bind (m := checkCount "sorted" 1 1 _) (wpAny_pure ?_)
  refine wpAny_bind (hc _ _ fun h' tk its hk rv hz => ?_)
  refine wpAny_bind (wpAny_newList ?_ hz)
  have hoL : (h'.push (seqObj "list" its.toArray 0)).get? h'.objs.size = some (seqObj "list" its.toArray 0) := Heap.get?_push_size _ rfl
  show wpAny _ _ _ _ _ { s with heap := h'.push (seqObj "list" its.toArray 0), toks := tk }
  refine wpAny_bind (wpAny_holding (wpAny_call_entry PyProof.Rows.slot_list_sort ⟨_, hoL, rfl⟩ PyProof.Rows.entry_list_sort ?_ (PyProof.Rows.args_list_sort _)))
  refine wpAny_mono (hs h' tk its hk rv hz) (fun f s' ⟨e, q⟩ => ⟨_, e, ?_⟩) fun _ _ e => e
  exact wpAny_pure ⟨_, rfl, q⟩
def rSortW (G : Gm) : List V → Hp → VK → Prop := fun vs H Q => ∃ w a v ds zs, H = w.H ∧ Good G w ∧ vs = [v] ∧ RepC G w a v ∧ iterOf a = some ds ∧ sortL ds = some zs ∧ Want G w (.lst zs) Q
theorem perm_short {α : Type} {l m : List α} (h : l.Perm m) (hl : m.length < 2) : l = m := by
  match m, hl with
  | [], _ => exact h.eq_nil
  | [x], _ => exact List.perm_singleton.mp h
theorem toPy_py {ds : List D} (h : (ds.all fun d => (toPy d).isSome) = true) {d : D} (hd : d ∈ ds) : toPy d = some (pyOf d) := by
  have := List.all_eq_true.mp h d hd
  unfold pyOf
  cases e : toPy d with
  | none => rw [e] at this; cases this
  | some p => rfl
/-- the values of data -/
def ValD (G : Gm) (w : Wd) (u : Value) (d : D) : Prop := ∃ v, RelV v u ∧ Rep G w d v
theorem valD_of : ∀ {ds : List D} {vs : List V} {us : List Value}, Reps G w ds vs → Vals vs us → PySem.W.EachIs (ValD G w) us ds
  | [], vs, us, r, h => by rw [show vs = _ from r] at h; cases h; exact .nil
  | d :: ds, vs, us, r, h => by
    obtain ⟨v, r', rfl, r1, r2⟩ := r
    cases h with
    | cons h1 h2 => exact .cons ⟨v, h1, r1⟩ (valD_of r2 h2)
theorem of_valD : ∀ {ds : List D} {us : List Value}, PySem.W.EachIs (ValD G w) us ds → ∃ vs, Reps G w ds vs ∧ Vals vs us
  | _, _, .nil => ⟨[], rfl, .nil⟩
  | _, _, .cons ⟨v, h1, r1⟩ t => by
    obtain ⟨vs, h2, h3⟩ := of_valD t
    exact ⟨v :: vs, ⟨v, vs, rfl, r1, h2⟩, .cons h1 h3⟩
theorem valD_reads {s : Shared} {pins : List (Addr × Obj)} (gd : Good G w) (I : Inv X pins σ w.H s) {ds : List D} {us : List Value} (hs : (ds.all fun d => (toPy d).isSome) = true) (e : PySem.W.EachIs (ValD G w) us ds) : PySem.W.EachIs (fun u d => ∃ as, Reads s.heap u (pyOf d) as) us ds :=
  (PySem.W.each_mem e).mono fun u d ⟨⟨v, h1, h2⟩, hd⟩ => Dp.reads I _ v u (dp_of gd d v (pyOf d) h2 (toPy_py hs hd)) h1
theorem call_sortW (vc : VC G X k Wx) : CallR X (.builtin "sorted") (rSortW G) := by
  intro pins s σ H xs us Q I r h
  obtain ⟨w, a, v, ds, zs, rfl, gd, rfl, ra, e1, e2, wn⟩ := h
  obtain ⟨u, rfl, ru⟩ := vals1 r
  have hh : X.A.handled = none := I.ok.hd vc.calm
  obtain ⟨w1, vs, l1, g1, eH, eW, q1, hc⟩ := iter_collect (A := X.A.in1) vc.eK hh gd I ra ru e1
  refine sorted_any hc fun h' tk its hk rv hz => ?_
  rw [← eH] at I
  have I1 : Inv X pins σ w1.H { s with heap := h', toks := tk } := I.kept hk
  have hoL : (h'.push (seqObj "list" its.toArray 0)).get? h'.objs.size = some (seqObj "list" its.toArray 0) := Heap.get?_push_size _ rfl
  have ln : its.length = ds.length := by rw [← rv.length, q1.length]
  have fin : ∀ out : List Value, ∀ vz, Reps G w1 zs vz → Vals vz out → out.length ≤ sizeLine → EP X pins σ Q (.ref h'.objs.size) { s with heap := sortedHeap (h'.push (seqObj "list" its.toArray 0)) h'.objs.size its out.toArray, toks := tk } := by
    intro out vz hz1 hz2 hz3
    obtain ⟨e', he'⟩ := PyProof.Rows.sortedHeap_at (vs := its) (out := out.toArray) hoL
    refine ⟨.ref h'.objs.size, upd w1.H h'.objs.size (.lst vz), I1.laid (t' := tk) (fun b u e => ?_) (Nat.le_refl _) (show ObjOk X.prog X.w _ _ _ (.lst vz) from ⟨by rw [hz2.length]; exact hz3, out, e', hz2, he'⟩), rfl, ?_⟩
    · have hb : b < h'.objs.size := Heap.lt_size e
      rw [PyProof.Rows.sortedHeap_old (Nat.ne_of_lt hb) (by rw [size_push']; exact Nat.lt_succ_of_lt hb)]
      exact Heap.get?_push_of_some _ e
    · have fr : w1.H h'.objs.size = none := I1.hok.fresh (Nat.le_refl _)
      exact want_new (w := w1) (z := .lst zs) (o := .lst vz) (fun w' v l g e r => wn w' v (l1.trans l) g (by rw [e, eW]) r) g1 (fun _ z => by cases z) fr ⟨_, vz, rfl, upd_same, Reps.mono (le_new g1 fr) _ _ hz1⟩
  unfold sortL at e2
  split at e2
  · rename_i h2
    cases e2
    refine SrtO.list_sort_ord swo0 hoL hz (fun h2' => absurd h2' (by omega)) fun out hs hb => ⟨rfl, ?_⟩
    have : out = its := perm_short hb.perm (by omega)
    subst this
    exact fin out vs q1 rv hz
  · rename_i h2
    split at e2
    · rename_i hc
      cases e2
      obtain ⟨c1, c2, c3, c4, c5⟩ := hc
      have ev := valD_of q1 rv
      have er : PySem.W.EachIs (fun u d => ∃ as, Reads h' u (pyOf d) as) its ds := valD_reads g1 I1 c1 ev
      have er' : PySem.W.EachIs (fun u d => ∃ as, Reads (PySem.W.sortingHeap (h'.push (seqObj "list" its.toArray 0)) h'.objs.size its) u (pyOf d) as) its ds := er.mono fun _ _ ⟨as, r⟩ => ⟨as, PyProof.Rows.Reads.keeps (fun b o e => PySem.W.sortingHeap_old (Nat.ne_of_lt (Heap.lt_size e)) (Heap.get?_push_of_some _ e)) r⟩
      have rs := PySem.W.sortVals_data false ev er' (alikeB_ok c2)
      obtain ⟨vz, z1, z2⟩ := of_valD rs
      have hz' := z1.length
      have hL : (PySem.W.sortVals (PySem.W.dataKind (PySem.W.sortingHeap (h'.push (seqObj "list" its.toArray 0)) h'.objs.size its) (ds.map pyOf)) false its its).length ≤ sizeLine := by
        rw [← z2.length, hz', List.length_mergeSort]; exact c5
      refine PySem.W.list_sort_vals (κ := PySem.W.dataKind (PySem.W.sortingHeap (h'.push (seqObj "list" its.toArray 0)) h'.objs.size its) (ds.map pyOf)) hoL (sortsAt_b (s := { s with heap := PySem.W.sortingHeap (h'.push (seqObj "list" its.toArray 0)) h'.objs.size its, toks := tk }) (PySem.W.each_map (R := fun v d => ∃ as, Reads (PySem.W.sortingHeap (h'.push (seqObj "list" its.toArray 0)) h'.objs.size its) v d as) pyOf er') (alikeB_ok c2) c3 fun d hd => ?_) hz ⟨rfl, fin _ vz z1 z2 hL⟩
      obtain ⟨b, hb, rfl⟩ := List.mem_map.mp hd
      have := of_decide_eq_true (List.all_eq_true.mp c4 b hb)
      have hu := vc.u64
      show X.A.units + 1 + 1 + _ < _
      omega
    · cases e2
def sortedD (a : D) : Option D := (iterOf a).bind fun ds => (sortL ds).map .lst
theorem cs_sorted (vc : VC G X k Wx) : CallS G X (.builtin "sorted") (one sortedD) := cs_one (call_sortW vc) fun w v a z Q gd r e wn => by
  obtain ⟨ds, e1, e2⟩ := Option.bind_eq_some_iff.mp e
  obtain ⟨zs, e3, rfl⟩ := Option.map_eq_some_iff.mp e2
  exact ⟨w, a, v, ds, zs, rfl, gd, rfl, r, e1, e3, wn⟩
end
end VL
set_option Elab.async false
set_option linter.all false
set_option maxRecDepth 100000
set_option maxHeartbeats 4000000
namespace VL
open PySem PySem.Spec PyProof.Rows L2
/-! ### enumerate of a tuple -/
theorem meets_enumerate_new1 {v : Value} {o : Obj} {H : Heap → Prop} (B : Begins v o H) :
    Meets (Builtin.«enumerate.__new__» ⟨[.type "enumerate", v], []⟩) (fun _ R s => H s.heap ∧
      R (.ok (.ret (.ref (s.heap.push o).objs.size))) { s with heap := (s.heap.push o).push { cls := .type "enumerate", data := .fields #[.none, .bool false, .ref s.heap.objs.size, rawInt 0, .none, .none] } }) :=
  .of_wp fun prog w A R s h => by
    obtain ⟨hp, g, d, tk, os⟩ := s; obtain ⟨h1, h⟩ := h
    have hsub := sub_enumerate
    have q1 : ∀ {A' : Around} {E : Value → Shared → Prop} {Q : Value → Shared → Prop}, Q (.ref hp.objs.size) ⟨hp.push o, g, d, tk, os⟩ → wpAny (model prog w) A' (pyIter v) Q E ⟨hp, g, d, tk, os⟩ :=
      fun q => B.iter prog w _ _ ⟨hp, g, d, tk, os⟩ _ h1 q
    wp_walk using q1
    refine wpAny_stack_any fun st => wpAny_pure ?_
    split
    · rename_i c _ _ _ _ _
      cases (c == Value.type "enumerate")
      · wp_walk using q1
        exact ⟨_, rfl, h⟩
      · wp_walk using q1
        exact ⟨_, rfl, h⟩
    · wp_walk using q1
      exact ⟨_, rfl, h⟩
theorem enum_begins1 {prog : Program} {w : World} {A : Around} {E : Value → Shared → Prop} {s : Shared} {v : Value} {o : Obj} {H : Heap → Prop} {Q : Value → Shared → Prop} (B : Begins v o H) (h1 : H s.heap)
    (h : ∀ h', IsEnum h' (s.heap.objs.size + 1) s.heap.objs.size 0 .none → h'.get? s.heap.objs.size = some o → h'.objs.size = s.heap.objs.size + 2 →
      (∀ b o, s.heap.get? b = some o → h'.get? b = some o) → Q (.ref (s.heap.objs.size + 1)) { s with heap := h' }) :
    wpAny (model prog w) A (call (.type "enumerate") [v]) Q E s := by
  refine callType_new F.called_enumerate (by decide) (F.typeCall_enumerate_1 _) (F.newCall_enumerate_1 _) (fun obj => F.args_object_init_2 obj _) F.entry_enumerate_new
    (meets_enumerate_new1 B) ⟨h1, ?_⟩
  have hz : (s.heap.push o).objs.size = s.heap.objs.size + 1 := Heap.size_push ..
  show _ ∧ _
  rw [hz]
  have he : IsEnum ((s.heap.push o).push { cls := .type "enumerate", data := .fields #[.none, .bool false, .ref s.heap.objs.size, rawInt 0, .none, .none] }) (s.heap.objs.size + 1) s.heap.objs.size 0 .none := by
    have := Heap.get?_push_size (s.heap.push o) (o := { cls := .type "enumerate", data := .fields #[.none, .bool false, .ref s.heap.objs.size, rawInt 0, .none, .none] }) rfl
    rw [hz] at this; exact this
  refine ⟨⟨_, he, rfl⟩, h _ he (Heap.get?_push_of_some _ (Heap.get?_push_size _ B.free)) (by rw [Heap.size_push, hz]) fun b o x => Heap.get?_push_of_some _ (Heap.get?_push_of_some _ x)⟩
/-- the items at a, each in a new pair with its number from c on -/
def Iteg (SqX : Hp → Addr → List V → Prop) (a : Addr) (c : Int) : It :=
  ⟨fun i H => ∃ (xs : List V) (x : V), SqX H a xs ∧ xs[i]? = some x, fun i H v H' => ∃ T x, v = .ref T ∧ H T = none ∧ H' = upd H T (.tup [.int (c + (i : Nat)), x]) ∧ ∀ xs, SqX H a xs → xs[i]? = some x, fun i H => ∃ xs : List V, SqX H a xs ∧ xs.length ≤ i⟩
/-- a kind of sequence, by what its iterator draws -/
structure SqKind (K : PySem.W.Frag) (SqX : Hp → Addr → List V → Prop) (ob : Addr → Obj) (IsI : Heap → Addr → Addr → Nat → Prop) (IsS : Heap → Addr → Array Value → Prop) : Prop where
  get : ∀ (X : Cx), X.K = K → ∀ {pins : List (Addr × Obj)} {σ : L2.St} {H : Hp} {s : Shared} {a : Addr} {xs : List V}, Inv X pins σ H s → SqX H a xs → ∃ its : List Value, Vals xs its ∧ IsS s.heap a its.toArray ∧ its.length ≤ sizeLine ∧ a < s.heap.objs.size
  inj : ∀ {H : Hp} {a : Addr} {xs ys : List V} (X : Cx), X.K = K → ∀ {pins : List (Addr × Obj)} {σ : L2.St} {s : Shared}, Inv X pins σ H s → SqX H a xs → SqX H a ys → xs = ys
  begin : ∀ (a : Addr) (its : Array Value), Begins (.ref a) (ob a) fun h => IsS h a its
  isi : ∀ (h : Heap) (it a : Addr), h.get? it = some (ob a) → IsI h it a 0
  draws : ∀ {prog : Program} {w : World} {A : Around} (hh : A.handled = none) (it t : Addr) (hne : t ≠ it) (items : Array Value), Draws prog w A it [it, t] items.size (fun i v => items[i]? = some v) (fun i h => IsI h it t i ∧ IsS h t items)
  fin : ∀ {prog : Program} {w : World} {A : Around} {E : Value → Shared → Prop} {s : Shared} {Q : Value → Shared → Prop} {it a : Addr} {i : Nat} {items : Array Value}, A.handled = none → IsI s.heap it a i → IsS s.heap a items → items[i]? = none →
    (∀ h' e, Heap.ExtBut it s.heap h' → (∃ o, h'.get? e = some o ∧ o.cls = .type "StopIteration") → E (.ref e) { s with heap := h' }) → wpAny (model prog w) A (Builtin.SmallTypes.nextOf (.ref it)) Q E s
  at' : ∀ {h h' : Heap} {it a : Addr} {i : Nat}, IsI h it a i → (∀ o, h.get? it = some o → h'.get? it = some o) → IsI h' it a i
  obj : ∀ {h : Heap} {it a : Addr} {i : Nat}, IsI h it a i → ∃ o, h.get? it = some o ∧ ∀ v, o.data ≠ .cell v
theorem sqk_list (K : PySem.W.Frag) : SqKind K (SqL K) (fun a => { cls := .type "list_iterator", data := .fields #[.ref a, .int 0 0] }) (fun h it a i => h.IsListIter it a i) (fun h a its => h.IsList a its) where
  get := fun X e pins σ H s a xs I h => by subst e; obtain ⟨its, rv, p, hz⟩ := I.list h; exact ⟨its, rv, p.isList, by rw [← rv.length]; exact hz, p.lt⟩
  inj := fun X e pins σ s I h1 h2 => by subst e; exact I.list_inj h1 h2
  begin := begins_list
  isi := fun h it a e => ⟨_, e, rfl, rfl⟩
  draws := fun hh it t hne items => Draws.list hh it t hne items
  fin := fun hh h1 h2 h3 h => wpAny_nextOf_list_end hh h1 h2 h3 h
  at' := fun st k => st.at k
  obj := fun ⟨o, ho, hc, hd⟩ => ⟨o, ho, fun v z => by rw [hd] at z; cases z⟩
theorem sqk_tup (K : PySem.W.Frag) : SqKind K (SqT K) (fun a => { cls := .type "tuple_iterator", data := .fields #[.ref a, .int 0 0] }) (fun h it a i => h.IsTupleIter it a i) (fun h a its => h.IsTuple a its) where
  get := fun X e pins σ H s a xs I h => by
    subst e; obtain ⟨its, rv, p, hz⟩ := I.tuple h
    obtain ⟨o, ho, _⟩ := id p
    exact ⟨its, rv, p, by rw [← rv.length]; exact hz, Heap.lt_size ho⟩
  inj := fun X e pins σ s I h1 h2 => by subst e; exact I.tuple_inj h1 h2
  begin := begins_tuple
  isi := fun h it a e => ⟨_, e, rfl, rfl⟩
  draws := fun hh it t hne items => Draws.tuple hh it t hne items
  fin := fun hh h1 h2 h3 h => wpAny_nextOf_tuple_end hh h1 h2 h3 h
  at' := fun st k => st.at k
  obj := fun ⟨o, ho, hc, hd⟩ => ⟨o, ho, fun v z => by rw [hd] at z; cases z⟩
section
variable {SqX : Hp → Addr → List V → Prop} {ob : Addr → Obj} {IsI : Heap → Addr → Addr → Nat → Prop} {IsS : Heap → Addr → Array Value → Prop}
theorem turn_enumG {P : Program} {w : World} {K : PySem.W.Frag} {elts : List Expr} {kk : Nat} {tpos : Pos} (S : SqKind K SqX ob IsI IsS) (a e it : Addr) (c : Int) :
    Turn P w K (.Tuple elts kk tpos) (Iteg SqX a c) [e, it] e (fun i h => (∃ old, IsEnum h e it (c + ((i : Nat) : Int)) old) ∧ IsI h it a i ∧ e ≠ it ∧ a ≠ it ∧ e ≠ a) where
  mem := by simp
  obj := fun i h st b hb => by
    obtain ⟨⟨old, he⟩, hi, _⟩ := st
    have e' : b = e ∨ b = it := by simpa using hb
    rcases e' with z | z
    · rw [z]; exact ⟨_, he, fun v q => nomatch q⟩
    · rw [z]; exact S.obj hi
  keep := fun i h h' st k => let ⟨⟨old, he⟩, hi, hne⟩ := st; ⟨⟨old, k e (by simp) _ he⟩, S.at' hi fun o q => k it (by simp) o q, hne⟩
  item := by
    intro X hP hw hK hc i pins s σ H E I hf st hg
    subst hP hw
    obtain ⟨⟨old, he⟩, hit, hne, hai, hea⟩ := st
    obtain ⟨xs, x, hq, hx⟩ := hg
    obtain ⟨its, rv, p, hz, hal⟩ := S.get X hK I hq
    obtain ⟨u, hu, ru⟩ := rv.get hx
    have hel : e < s.heap.objs.size := Heap.lt_size he
    have hil : it < s.heap.objs.size := by obtain ⟨_, q, _⟩ := S.obj hit; exact Heap.lt_size q
    have hlt : i < its.toArray.size := by rw [List.size_toArray]; exact (List.getElem?_eq_some_iff.mp hu).1
    refine wpAny_pyNext_enum_itemC (S.draws (A := X.A.in1) (I.ok.hd hc) it a hai its.toArray) he ⟨hit, p⟩ hlt hne (fun hm => by rcases List.mem_cons.mp hm with z | z; exact hne z; exact hea (List.mem_singleton.mp z)) fun y h' tk hy ho hit' hT hsz hk => ?_
    have ey : y = u := by
      have : its.toArray[i]? = some u := by simpa using hu
      rw [this] at hy; exact (Option.some.inj hy).symm
    subst ey
    refine ⟨_, rfl, wpAny_letOwnedTupleGo_enum (s := { s with heap := h', toks := tk + 1 }) ho fun h'' he' sb => ?_⟩
    have hT2 : h''.get? s.heap.objs.size = some { cls := .type "tuple", data := .seq #[.int (c + (i : Nat)) tk, y] } := (sb.2 _ (Nat.ne_of_gt hel)).trans hT
    have new : ObjOk X.prog X.w (upd H s.heap.objs.size (.tup [.int (c + (i : Nat)), x])) h'' s.heap.objs.size (.tup [.int (c + (i : Nat)), x]) :=
      ⟨by show 2 ≤ sizeLine; decide, [.int (c + (i : Nat)) tk, y], .cons ⟨_, rfl⟩ (.cons ru .nil), ⟨_, hT2, rfl, _, rfl⟩⟩
    have I1 : Inv X pins σ (upd H s.heap.objs.size (.tup [.int (c + (i : Nat)), x])) { s with heap := h'', toks := tk + 1 } :=
      I.turnedNew (ch := [e, it]) (fun b ob hb q => (sb.2 b (fun z => hb (by simp [z]))).trans (hk b ob (fun z => hb (by simp [z])) (fun z => hb (by simp [z])) q)) hf (Nat.le_refl _) new
    refine ⟨.ref s.heap.objs.size, _, I1, rfl, ⟨_, x, rfl, I.hok.fresh (Nat.le_refl _), rfl, fun ys hy => by rw [S.inj X hK I hy hq]; exact hx⟩, ⟨⟨y, ?_⟩, S.at' hit'.1 fun o q => (sb.2 it (Ne.symm hne)).trans q, hne, hai, hea⟩, fun b hb => ?_⟩
    · have e1 : c + ((i + 1 : Nat) : Int) = c + (i : Int) + 1 := by omega
      rw [e1]; exact he'
    · have hb' : b < s.heap.objs.size := by
        have e' : b = e ∨ b = it := by simpa using hb
        rcases e' with z | z
        · rw [z]; exact hel
        · rw [z]; exact hil
      rw [upd_ne (Nat.ne_of_lt hb')]
      exact (hf b hb).1
  done := by
    intro X hP hw hK hc i pins s σ H E I hf st hg
    subst hP hw
    obtain ⟨⟨old, he⟩, hit, hne, hai, hea⟩ := st
    obtain ⟨xs, hq, hx⟩ := hg
    obtain ⟨its, rv, p, hz, hal⟩ := S.get X hK I hq
    obtain ⟨f0, f1, f2, f3, f4, f5⟩ := hf it (by simp)
    have hl := rv.length
    have hn : its.toArray[i]? = none := by simp; omega
    have hT : s.TypeIs (.ref e) "enumerate" := ⟨_, he, rfl⟩
    unfold pyNext
    refine wpAny_bind (wpAny_attempt (wpAny_callSpecial?_slot (name := Str.ofString "__next__") hT F.slot_enumerate_next
      (wpAny_call_entry F.slot_enumerate_next hT F.entry_enumerate_next ?_ (F.args_enumerate_next_1 _))))
    show wpAny _ _ (field (.ref e) 2 >>= _) _ _ _
    refine wpAny_bind (wpAny_field he rfl (x := .ref it) rfl ?_)
    refine wpAny_bind (S.fin (A := X.A.in1) (I.ok.hd hc) hit p hn fun h' x he' hx' => ?_)
    obtain ⟨o, ho, hc⟩ := hx'
    refine wpAny_bind (wpAny_isInstance (T := "StopIteration") (b := true) ⟨o, ho, hc⟩ isSubtype_stop ?_)
    exact wpAny_pure ⟨rfl, I.turned (t' := s.toks) (fun b o hb q => he' b o hb q) f0 f1 f3 f4 f5⟩
  self := fun A i s Q E st h => let ⟨⟨_, he⟩, _⟩ := st; wpAny_pyIter_enum he h
theorem enum_one {X : Cx} {pins : List (Addr × Obj)} {σ : L2.St} {H : Hp} {s : Shared} {R : It → Hp → Prop} {elts : List Expr} {kk : Nat} {tpos : Pos} {E : Value → Shared → Prop} (S : SqKind X.K SqX ob IsI IsS) {a : Addr} {c : Int} {h' : Heap} (I : Inv X pins σ H s) (ha : a < s.heap.objs.size)
    (he : IsEnum h' (s.heap.objs.size + 1) s.heap.objs.size c .none) (ho : h'.get? s.heap.objs.size = some (ob a)) (hk : ∀ b o, s.heap.get? b = some o → h'.get? b = some o) (q : R (Iteg SqX a c) H) :
    wpAny (model X.prog X.w) X.A (pyIter (.ref (s.heap.objs.size + 1))) (PIE X pins σ (.Tuple elts kk tpos) R) E { s with heap := h' } := by
  refine wpAny_pyIter_enum he ?_
  have I2 : Inv X pins σ H { s with heap := h' } := I.kept (t' := s.toks) hk
  refine ⟨s.heap.objs.size + 1, [s.heap.objs.size + 1, s.heap.objs.size], _, _, H, rfl, I2, turn_enumG S a (s.heap.objs.size + 1) s.heap.objs.size c, ⟨⟨.none, ?_⟩, S.isi _ _ _ ho, Nat.succ_ne_self _, Nat.ne_of_lt ha, Nat.ne_of_gt (Nat.lt_succ_of_lt ha)⟩, fun b hb => ?_, q⟩
  · have e0 : c + ((0 : Nat) : Int) = c := by simp
    rw [e0]; exact he
  · have e' : b = s.heap.objs.size + 1 ∨ b = s.heap.objs.size := by simpa using hb
    have hle : s.heap.objs.size ≤ b := by
      rcases e' with z | z
      · rw [z]; exact Nat.le_add_right _ _
      · rw [z]; exact Nat.le_refl _
    exact I.fpOk hle (I.hok.fresh hle)
end
section
variable {G : Gm} {X : Cx} {k : Nat} {Wx : WX} {σ : L2.St} {w w' : Wd} {ρ : Rho} {Dn : Ends}
/-! ### lists and tuples alike -/
def iSeqV (K : PySem.W.Frag) (tl : TE) : TI := fun σ H R => tl σ H fun x H1 => ∃ a, x = .ref a ∧ ((∃ xs, SqL K H1 a xs ∧ R (Itl K a) H1) ∨ (∃ xs, SqT K H1 a xs ∧ R (Itt K a) H1))
theorem pi_seqV {tg : Expr} {l : Expr} {tl : TE} (hl : PE X l tl) : PI X tg l (iSeqV X.K tl) := by
  refine ⟨fun pins s σ H R I h => ?_⟩
  refine thn (hl.run pins s σ H _ I h) fun v s1 ⟨x, H1, I1, r1, q1⟩ => ?_
  obtain ⟨a, e, q1⟩ := q1
  subst e
  cases r1
  have fr : ∀ b ∈ [s1.heap.objs.size], FpOk X pins H1 b := fun b hb => by
    have e : b = s1.heap.objs.size := by simpa using hb
    subst e
    exact I1.fpOk (Nat.le_refl _) (I1.hok.fresh (Nat.le_refl _))
  rcases q1 with ⟨xs, hq, q⟩ | ⟨xs, hq, q⟩
  · obtain ⟨its, rv, p, hz⟩ := I1.list hq
    refine wpAny_pyIter_list p.isList ?_
    exact ⟨s1.heap.objs.size, [s1.heap.objs.size], _, _, H1, rfl, I1.kept (t' := s1.toks) fun b o e => Heap.get?_push_of_some _ e, turn_list a _, ⟨_, Heap.get?_push_size _ rfl, rfl, rfl⟩, fr, q⟩
  · obtain ⟨its, rv, p, hz⟩ := I1.tuple hq
    refine wpAny_pyIter_tuple (show s1.heap.IsTuple a its.toArray from p) ?_
    exact ⟨s1.heap.objs.size, [s1.heap.objs.size], _, _, H1, rfl, I1.kept (t' := s1.toks) fun b o e => Heap.get?_push_of_some _ e, turn_tuple a _, ⟨_, Heap.get?_push_size _ rfl, rfl, rfl⟩, fr, q⟩
def itemsQ (d : Vl) (W : List O) : Res (List D) := match d with
  | .d (.lst ds) => .ok ds W
  | .d (.tup ds) => .ok ds W
  | _ => .bad
def iSeq (f : Sem Vl) : Sem (List D) := fun ρ W => (f ρ W).bind itemsQ
theorem si_seq {tg e : Expr} {f : Sem Vl} (h : SE G X Wx e f) : SI G X Wx tg e (iSeq f) := PI.imp (pi_seqV h) fun σ H R hh => it1 (R := RepV G) hh fun ρ w v a g er r p => by
  unfold itemsQ at p
  split at p
  · rename_i ds
    obtain ⟨a, vs, rfl, hs, q⟩ := r
    exact ⟨a, rfl, .inl ⟨vs, .of (g.shN hs rfl), p w _ (Le.refl w) g rfl (itok_list hs q)⟩⟩
  · rename_i ds
    obtain ⟨a, vs, rfl, hs, q⟩ := r
    exact ⟨a, rfl, .inr ⟨vs, .of (g.shN hs rfl), p w _ (Le.refl w) g rfl (itok_tup hs q)⟩⟩
  · exact p.elim
/-! ### enumerate -/
def iEnumV (K : PySem.W.Frag) (ta : TA) : TI := fun σ H R => ta σ H fun vs H1 => ∃ a, vs = [.ref a] ∧ ((∃ xs, SqL K H1 a xs ∧ R (Iteg (SqL K) a 0) H1) ∨ (∃ xs, SqT K H1 a xs ∧ R (Iteg (SqT K) a 0) H1))
theorem pi_enumV {e : Expr} {ta : TA} {p pos tpos : Pos} {elts : List Expr} {kk : Nat} (hg : Gl X "enumerate") (hm : X.mg "enumerate" = none) (ha : PA X [e] ta) (hs : starEach [e] X.env = [(false, eval e X.env)] := by rfl) :
    PI X (.Tuple elts kk tpos) (.Call (.Name "enumerate" p) [e] [] pos) (iEnumV X.K ta) := by
  refine ⟨fun pins s σ H R I h => ?_⟩
  refine Call_ (ld_blt I hg hm boot_enumerate (PyProof.Rows.callWith_type1 (thn (ha.run pos pins s σ H _ I h) fun us s1 ⟨vs, H1, I1, r1, q1⟩ => ?_) hs rfl))
  obtain ⟨a, ex, q1⟩ := q1
  subst ex
  cases r1 with
  | cons r rr =>
    cases rr
    cases r
    rcases q1 with ⟨xs, hq, q⟩ | ⟨xs, hq, q⟩
    · obtain ⟨its, rv, p', hz, hl⟩ := (sqk_list X.K).get X rfl I1 hq
      exact enum_begins1 ((sqk_list X.K).begin a its.toArray) p' fun h' he ho hsz hk => enum_one (sqk_list X.K) I1 hl he ho hk q
    · obtain ⟨its, rv, p', hz, hl⟩ := (sqk_tup X.K).get X rfl I1 hq
      exact enum_begins1 ((sqk_tup X.K).begin a its.toArray) p' fun h' he ho hsz hk => enum_one (sqk_tup X.K) I1 hl he ho hk q
def enumC (c : Int) (ds : List D) : List D := (List.range ds.length).map fun i => .tup [.int (c + (i : Nat)), ds.getD i .non]
theorem enumC_get {c : Int} {ds : List D} {i : Nat} {d : D} (h : (enumC c ds)[i]? = some d) : ∃ x, ds[i]? = some x ∧ d = .tup [.int (c + (i : Nat)), x] := by
  unfold enumC at h
  rw [List.getElem?_map] at h
  obtain ⟨j, e1, e2⟩ := Option.map_eq_some_iff.mp h
  have hi := (List.getElem?_eq_some_iff.mp e1).1
  rw [List.length_range] at hi
  rw [List.getElem?_range hi] at e1
  cases e1; subst e2
  exact ⟨ds[i], List.getElem?_eq_getElem hi, by rw [List.getD_eq_getElem?_getD, List.getElem?_eq_getElem hi]; rfl⟩
theorem enumC_len {c : Int} {ds : List D} : (enumC c ds).length = ds.length := by unfold enumC; rw [List.length_map, List.length_range]
theorem itok_enumL {K : PySem.W.Frag} {a : Addr} {vs : List V} {ds : List D} {c : Int} (hs : w.Hs a = some (.lst vs)) (r : Reps G w ds vs) : ItOk G w (Iteg (SqL K) a c) (enumC c ds) := fun w1 l g => by
  have h1 : w1.H a = some (.lst vs) := g.shN (l.hs _ _ hs) rfl
  have r1 := Reps.mono l _ _ r
  have ln := r1.length
  have le : (enumC c ds).length = ds.length := enumC_len
  refine ⟨fun i hi => ⟨vs, vs[i]'(by omega), .of h1, List.getElem?_eq_getElem _⟩, ⟨vs, .of h1, by omega⟩, fun i x H' hy d hd => ?_⟩
  obtain ⟨T, y, rfl, hT, eH, hf⟩ := hy
  obtain ⟨z, e1, rfl⟩ := enumC_get hd
  obtain ⟨v, e2, e3⟩ := r1.get e1
  have := hf vs (.of h1)
  rw [e2] at this; cases this
  exact new_pair g hT eH rfl e3
theorem itok_enumT {K : PySem.W.Frag} {a : Addr} {vs : List V} {ds : List D} {c : Int} (hs : w.Hs a = some (.tup vs)) (r : Reps G w ds vs) : ItOk G w (Iteg (SqT K) a c) (enumC c ds) := fun w1 l g => by
  have h1 : w1.H a = some (.tup vs) := g.shN (l.hs _ _ hs) rfl
  have r1 := Reps.mono l _ _ r
  have ln := r1.length
  have le : (enumC c ds).length = ds.length := enumC_len
  refine ⟨fun i hi => ⟨vs, vs[i]'(by omega), .of h1, List.getElem?_eq_getElem _⟩, ⟨vs, .of h1, by omega⟩, fun i x H' hy d hd => ?_⟩
  obtain ⟨T, y, rfl, hT, eH, hf⟩ := hy
  obtain ⟨z, e1, rfl⟩ := enumC_get hd
  obtain ⟨v, e2, e3⟩ := r1.get e1
  have := hf vs (.of h1)
  rw [e2] at this; cases this
  exact new_pair g hT eH rfl e3
def enumS (as : List Vl) (W : List O) : Res (List D) := match as with
  | [.d (.lst ds)] => .ok (enumC 0 ds) W
  | [.d (.tup ds)] => .ok (enumC 0 ds) W
  | _ => .bad
def iEnum (f : Sem (List Vl)) : Sem (List D) := fun ρ W => (f ρ W).bind enumS
theorem si_enum {a : Expr} {f : Sem (List Vl)} {p pos tpos : Pos} {elts : List Expr} {kk : Nat} (hg : Gl X "enumerate") (hm : X.mg "enumerate" = none) (h : SA G X Wx [a] f) (hs : starEach [a] X.env = [(false, eval a X.env)] := by rfl) :
    SI G X Wx (.Tuple elts kk tpos) (.Call (.Name "enumerate" p) [a] [] pos) (iEnum f) :=
  PI.imp (pi_enumV hg hm h hs) fun σ H R hh => it1 (R := RepVs G) hh fun ρ w v a g er r p => by
    unfold enumS at p
    split at p
    · rename_i ds
      obtain ⟨v1, r1, rfl, q1, rfl⟩ := r
      obtain ⟨a1, vs, rfl, hs, q⟩ := q1
      exact ⟨a1, rfl, .inl ⟨vs, .of (g.shN hs rfl), p w _ (Le.refl w) g rfl (itok_enumL hs q)⟩⟩
    · rename_i ds
      obtain ⟨v1, r1, rfl, q1, rfl⟩ := r
      obtain ⟨a1, vs, rfl, hs, q⟩ := q1
      exact ⟨a1, rfl, .inr ⟨vs, .of (g.shN hs rfl), p w _ (Le.refl w) g rfl (itok_enumT hs q)⟩⟩
    · exact p.elim
/-! ### list(range(..)) -/
def eLstRg1 (fa : Sem Vl) : Sem Vl := fun ρ W => (fa ρ W).bind fun a W1 => match a with
  | .d (.int n) => if n ≤ 16777216 ∧ -(2 ^ 62) ≤ n then .ok (.d (.lst (rngD 0 n))) W1 else .bad
  | _ => .bad
theorem rg_reps {lo hi : Int} : Reps G w (rngD lo hi) (rgV lo hi) := by
  unfold rngD rgV
  generalize (hi - lo).toNat = n
  have : ∀ l : List Nat, Reps G w (l.map fun i => D.int (lo + (i : Nat))) (l.map fun i => V.int (lo + (i : Nat))) := fun l => by
    induction l with
    | nil => rfl
    | cons a l ih => exact ⟨_, _, rfl, rfl, ih⟩
  exact this _
theorem se_listRg1 {a : Expr} {fa : Sem Vl} {p p2 pos pos2 : Pos} (vc : VC G X k Wx) (hgl : Gl X "list") (hml : X.mg "list" = none) (hg : Gl X "range") (hm : X.mg "range" = none) (ha : SE G X Wx a fa) (na : starEach [a] X.env = (false, eval a X.env) :: starEach [] X.env := by rfl)
    (nb : starEach [Expr.Call (.Name "range" p2) [a] [] pos2] X.env = (false, eval (Expr.Call (.Name "range" p2) [a] [] pos2) X.env) :: starEach [] X.env := by rfl) :
    SE G X Wx (.Call (.Name "list" p) [.Call (.Name "range" p2) [a] [] pos2] [] pos) (eLstRg1 fa) :=
  PE.imp (pe_listRg vc.calm hgl hml (prg_1 hg hm ha na) nb) fun σ H Q hh => un1 hh fun ρ w v a g1 _ r1 p => by
    split at p
    · rename_i n
      split at p
      · rename_i hb
        refine ⟨n, r1, ⟨by omega, by omega, by omega, by omega, by omega⟩, fun q hq => ?_⟩
        exact want_new (o := .lst (rgV 0 n)) p.want g1 (fun _ z => by cases z) hq ⟨q, _, rfl, upd_same, rg_reps⟩
      · exact p.elim
    · exact p.elim
/-! ### name op= e -/
def IpS (G : Gm) (X : Cx) (op : Operator) (g : D → D → Option D) : Prop :=
  ∃ r : TIp, PIp X op r ∧ ∀ w v u a b z Q, Good G w → RepC G w a v → RepC G w b u → g a b = some z → Want G w z Q → r v u w.H Q
theorem is_ip {op : Operator} {f : Int → Int → Int} (h : PIp X op (ipI f)) : IpS G X op (intOp fun i j => .int (f i j)) := ⟨_, h, fun w v u a b z Q gd r1 r2 p wn => by
  unfold intOp at p
  split at p
  · rename_i i j
    cases p
    exact ⟨i, j, r1, r2, wn.here (v := V.int _) gd rfl⟩
  · cases p⟩
def iaddS := intOp fun i j => .int (i + j)
theorem is_add : IpS G X .Add iaddS := is_ip ip_add
theorem is_sub : IpS G X .Sub subS := is_ip ip_sub
def sAug (i : Nat) (g : D → D → Option D) (f : Sem Vl) : SemS := fun ρ W => match ρ[i]? with
  | some (some a) => liftS (f ρ W) ρ fun b W1 => liftS (on2 g a b W1) ρ fun z W2 => .ok .nx (ρ.set i (some z)) W2
  | _ => .bad
theorem ss_aug {i : Nat} {x : Str} {e : Expr} {op : Operator} {f : Sem Vl} {g : D → D → Option D} {pos pos' : Pos} (vc : VC G X k Wx) (ho : IpS G X op g) (h : SE G X Wx e f) (hi : X.N[i]? = some x := by rfl) (hx : Loc X.env.scope x := by first | exact .inl rfl | exact .inr rfl)
    (hf : X.fn x = true ∨ X.env.scope.names.lookup x = some .local := by first | exact .inl rfl | exact .inr rfl | assumption) :
    SS G X Wx (.AugAssign (.Name x pos') op e pos) (sAug i g f) := by
  obtain ⟨r, h1, h2⟩ := ho
  refine PS.imp (ps_aug vc.nd hi hx h h1 hf) fun D σ H hh => ?_
  obtain ⟨w, ρ, rfl, gd, er, p⟩ := hh
  unfold sAug at p
  split at p
  · rename_i a ea
    obtain ⟨v, ev, rv⟩ := er.get ea
    refine ⟨v, ev, w, ρ, rfl, gd, er, (PostS.lift (R := RepV G) p er).mono fun u H1 ⟨w1, b, e1, l1, g1, r1, q1⟩ => ?_⟩
    subst e1
    have q2 := PostS.lift (R := RepV G) q1 (er.mono l1)
    obtain ⟨x, y, z, c1, c2, ez, wn⟩ := q2.on2
    refine h2 w1 v u x y z _ g1 (RepV.now g1 (RepV.mono l1 _ _ rv) c1) (RepV.now g1 r1 c2) ez fun w' v' l g' eW r' => ?_
    obtain ⟨w2, d, e2, l2, g2, rr, p2⟩ := wn w' v' l g' eW r'
    rw [← e2]
    exact p2.nx g2 (((er.mono l1).mono l2).set rr)
  · exact p.elim
end
end VL
set_option Elab.async false
set_option linter.all false
set_option maxRecDepth 100000
set_option maxHeartbeats 4000000
namespace VL
open PySem PySem.Spec PyProof.Rows L2
/-! ### several except clauses that name the exception -/
def wManyAs (K : PySem.W.Frag) (i L : Nat) (Wout : WX) (D : Ends) : List (Value × (Addr → Value → Option Addr → TS)) → WX
  | [] => Wout
  | (c, ts) :: r => fun cls d σ H => ∃ b, PySem.W.exmOne K cls c = some b ∧ (b = true → σ.length = L → ∀ a, H a = none → ts a cls d { nx := fun σ' H' => D.nx (σ'.set i none) H', rt := D.rt, bk := fun σ' H' => D.bk (σ'.set i none) H', ct := fun σ' H' => D.ct (σ'.set i none) H' } (σ.set i (some (.ref a))) H) ∧ (b = false → wManyAs K i L Wout D r cls d σ H)
inductive HdsAs (X : Cx) (n : Str) : List ExceptHandler → List (Value × (Addr → Value → Option Addr → TS)) → Prop
  | nil : HdsAs X n [] []
  | cons {x : Str} {c : Value} {ts : Addr → Value → Option Addr → TS} {b₀ : Stmt} {suite : List Stmt} {np pos' : Pos} {hds : List ExceptHandler} {l : List (Value × (Addr → Value → Option Addr → TS))} (hc : Names X x c)
      (hsu : ∀ (a : Addr) (oe : Obj) (cls : Value) (d : Option Addr) (pn : List (Addr × Obj)), Zc cls d oe → (∃ vs, oe.data = .fields vs) → PSs (X.suite a ((a, oe) :: pn)) (b₀ :: suite) (ts a cls d)) (r : HdsAs X n hds l) :
      HdsAs X n (.ExceptHandler (some (.Name x np)) (some n) (b₀ :: suite) pos' :: hds) ((c, ts) :: l)
section
variable {X : Cx} {n : Str} {i : Nat} {body : List Stmt} {h₀ : ExceptHandler} {hds : List ExceptHandler} {l : List (Value × (Addr → Value → Option Addr → TS))} {pos : Pos} {tb : WX → TS} {Wout : WX}
theorem ps_try_manyAs (hs : X.stack = X.env :: X.outer) (hf : X.env.frame = some X.env.locals) (hN : X.N.Nodup) (hi : X.N[i]? = some n) (hln : X.env.kindOf n = some .local) (tk : Takes X Wout)
    (hb : ∀ (W : WX) (pn : List (Addr × Obj)) (xe : Value → Shared → Prop), Takes (X.tr pn xe) W → PassesOwn (model X.prog X.w) X.A X.env xe → PSs (X.tr pn xe) body (tb W))
    (hh : HdsAs X n (h₀ :: hds) l) : PS X (.Try body (h₀ :: hds) [] [] pos) (fun D σ H => tb (wManyAs X.K i X.N.length Wout D l) D σ H) := by
  refine ⟨fun pins s σ H D I h => ?_⟩
  have ok := I.ok
  have hfr : X.A.frames = some (X.env :: X.outer) := by rw [ok.frames, hs]
  have hloc : Loc X.env.scope n := .inl hln
  refine wpAny_Try_except ?_
  refine wpAny_mono ((hb (wManyAs X.K i X.N.length Wout D l) (X.pn ++ pins) (fun e s₁ => wpAny (model X.prog X.w) X.A (noteFrame e X.env) (fun _ s₂ => wpAny (model X.prog X.w) X.A (setFlight e none) (fun _ s₃ =>
    wpAny (model X.prog X.w) X.A (handleBy e X.env (h₀ :: hds)) (SP X pins D) X.xe s₃) X.xe s₂) X.xe s₁) (fun u s' xx => ?_) PassesOwn.looking).run [] s σ H D (I.toTry _) h) (fun f s1 hsp => ?_) (fun e s1 he => he)
  · obtain ⟨a, B, sI, pins', σ', H', cls, d, rfl, J', nb, up, sky, na, os, ag, w⟩ := xx
    have J : Inv X pins σ' H' sI := J'.ofTry ok
    have sky' : Sky B (X.env :: X.outer) a (Zc cls d) X.env.locals s'.heap := by rw [← hs]; exact sky
    show wpAny (model X.prog X.w) X.A (noteFrame (.ref a) X.env) _ _ _
    refine Sky.land Zc.steady hfr hf sky' fun h3 fl3 up3 => ?_
    have J3 : Inv X pins σ' H' { s' with heap := h3 } := J.landed nb fl3.1 (up.trans up3) os ag
    obtain ⟨oe3, vs3, he3, hz3, hd3⟩ := fl3.there
    have notFr : ∀ {h : Heap} {o : Obj} {vs : Array Value}, h.FunFrames B (X.env :: X.outer) → h.get? a = some o → o.data = .fields vs → a ∉ frs (X.env :: X.outer) := fun {h o vs} ff e dd hm => by
      obtain ⟨_, o', e', hnf⟩ := ff.mem hm
      rw [e] at e'; cases e'
      exact hnf _ dd
    have nfr := notFr fl3.2.2.1 he3 hd3
    have nL : a ≠ X.env.locals := fun z => nfr (List.mem_filterMap.mpr ⟨X.env, List.mem_cons_self, by rw [hf, z]⟩)
    have nF : a ∉ X.fs := fun hm => by
      obtain ⟨e, he, q⟩ := List.mem_filterMap.mp hm
      exact nfr (List.mem_filterMap.mpr ⟨e, List.mem_cons_of_mem _ he, q⟩)
    have S3 := J3.suite he3 hd3 na nL nF
    have go : ∀ {hds' : List ExceptHandler} {l' : List (Value × (Addr → Value → Option Addr → TS))}, HdsAs X n hds' l' → wManyAs X.K i X.N.length Wout D l' cls d σ' H' →
        wpAny (model X.prog X.w) X.A (handleBy (.ref a) X.env hds') (SP X pins D) X.xe { s' with heap := h3 } := by
      intro hds' l' hk
      induction hk with
      | nil =>
        intro w
        refine wpAny_handleBy_nil ?_
        obtain ⟨k1, k2, k3, oe, vs, T, oT, ts', he, hz, hd, h1, hr⟩ := id fl3
        unfold PySem.passOn
        refine wpAny_bind (wpAny_field he hd h1 ?_)
        rw [if_neg (show ¬ ((Value.ref T == Value.none) = true) from by simp)]
        have fin : wpAny (model X.prog X.w) X.A (setFlight (.ref a) X.env.frame) (fun _ s4 => wpAny (model X.prog X.w) X.A (throw (.ref a) : PySem.Sem Flow) (SP X pins D) X.xe s4) X.xe { s' with heap := h3 } := by
          rw [hf]
          refine HandSPX.setFlight_upZ fl3 fun h4 hh4 up4 => wpAny_throw (tk _ _ ?_)
          exact ⟨a, B, sI, pins, σ', H', cls, d, rfl, J, nb, (up.trans up3).trans up4, .inr (.inr (by rw [hs]; exact hh4)), na, os, ag, w⟩
        first
          | exact wpAny_bind (wpAny_pure (wpAny_bind fin))
          | exact wpAny_bind fin
      | @cons x c ts b₀ suite np pos' hds2 l2 hc hsu r ih =>
        intro w
        obtain ⟨b, hb1, hyes, hno⟩ := w
        refine wpAny_handleBy_cons (codeAny_handlers_test ?_) (by intro q; cases q)
        have LT : PySem.W.Looks (model X.prog X.w) h3 (typeOf (.ref a)) cls := fun A Q E s k q => wpAny_typeOf_ref (k _ _ he3) (by rw [hz3.1]; exact q)
        have LM := PySem.W.exm_one (M := model X.prog X.w) (J3.kIn) LT hb1
        have test : ∀ {Q : Value → Shared → Prop} {E : Value → Shared → Prop}, Q c { s' with heap := h3 } → wpAny (model X.prog X.w) (X.A.mark (some (.ref a))) (eval (.Name x np) X.env) Q E { s' with heap := h3 } := fun {Q E} q => by
          obtain ⟨hg, hdbg, hm | ⟨hm, hv, hnn⟩⟩ := hc
          · exact ld_glob (X := X.suite a ((a, oe3) :: (X.pn ++ pins))) S3 hg hm q hdbg
          · exact ld_blt (X := X.suite a ((a, oe3) :: (X.pn ++ pins))) S3 hg hm hv q hnn hdbg
        refine test (LM.here ?_)
        cases b with
        | true =>
          refine codeAny_handlers_suite_as ?_
          refine HandSPX.lands_againZ fl3 fun h4 fl4 up4 => ?_
          have J4 : Inv X pins σ' H' { s' with heap := h4 } := J.landed nb fl4.1 ((up.trans up3).trans up4) os ag
          obtain ⟨oe4, vs4, he4, hz4, hd4⟩ := fl4.there
          have S4 := J4.suite he4 hd4 na nL nF
          refine store_ok (X := X.suite a ((a, oe4) :: (X.pn ++ pins))) (v := .ref a) S4 hN hi hloc rfl (fun s5 S5 => ?_) (.inr hln)
          refine wpAny_mono ((hsu a oe4 cls d (X.pn ++ pins) hz4 ⟨_, hd4⟩).run [] s5 _ H' _ S5 (hyes rfl J.len a na)) (fun f s6 hsp => ?_) (fun _ _ z => False.elim z)
          have end_ : ∀ {σ6 : L2.St} {H6 : Hp} {Q : Shared → Prop}, Inv (X.suite a ((a, oe4) :: (X.pn ++ pins))) [] σ6 H6 s6 → (∀ s7, Inv X pins (σ6.set i none) H6 s7 → Q s7) →
              wpAny (model X.prog X.w) X.A (do bindName X.env n .none; unbindBehindTheSuite X.env n pos') (fun _ s7 => Q s7) X.xe s6 := fun {σ6 H6 Q} S6 hq => gone_ok (S6.unsuite ok) hN hi hln hq
          cases f with
          | next =>
            obtain ⟨σ6, H6, S6, q6⟩ := hsp
            exact end_ S6 fun s7 J7 => ⟨_, _, J7, q6⟩
          | brk =>
            obtain ⟨σ6, H6, S6, q6⟩ := hsp
            exact end_ S6 fun s7 J7 => ⟨_, _, J7, q6⟩
          | cont =>
            obtain ⟨σ6, H6, S6, q6⟩ := hsp
            exact end_ S6 fun s7 J7 => ⟨_, _, J7, q6⟩
          | ret u =>
            obtain ⟨v6, σ6, H6, S6, r6, q6⟩ := hsp
            exact end_ S6 fun s7 J7 => ⟨_, _, _, J7, r6, q6⟩
        | false =>
          show wpAny _ X.A (handleBy (.ref a) X.env hds2) _ _ _
          exact ih (hno rfl)
    exact go hh w
  · cases f with
    | next =>
      obtain ⟨σ', H', J', q⟩ := hsp
      exact wpAny_execs_nil ⟨σ', H', J'.ofTry ok, q⟩
    | brk =>
      obtain ⟨σ', H', J', q⟩ := hsp
      exact ⟨σ', H', J'.ofTry ok, q⟩
    | cont =>
      obtain ⟨σ', H', J', q⟩ := hsp
      exact ⟨σ', H', J'.ofTry ok, q⟩
    | ret u =>
      obtain ⟨v, σ', H', J', r, q⟩ := hsp
      exact ⟨v, σ', H', J'.ofTry ok, r, q⟩
end
/-! ### _law_refused -/
/-- what is told of an exception: its clause's word and its value -/
def refEch (hs : List (Addr × Str)) (Q : VK) : XK := fun cls d H' => ∃ (C dd : Addr) (fs : List (Str × V)) (v : V) (s : Str), cls = .ref C ∧ d = some dd ∧ H' dd = some (.xd fs) ∧ fs.lookup ("value" : Str) = some v ∧ hs.lookup C = some s ∧ ∀ p, H' p = none → Q (.ref p) (upd H' p (.tup [.str s, v]))
def TTref (hs : List (Addr × Str)) : (XK → Hp → VK → Prop) → Hp → VK → Prop := fun tl H Q =>
  tl (refEch hs Q) H fun _ H' => ([V.str "", V.non] : List V).length ≤ sizeLine ∧ ∀ p, H' p = none → Q (.ref p) (upd H' p (.tup [V.str "", V.non]))
/-- the clauses: except x as n: return (word, n.value) -/
inductive RHs (K : PySem.W.Frag) (mg : Str → Option Value) (sg : Scope) (n : Str) : List (Addr × Str) → List ExceptHandler → Prop
  | nil : RHs K mg sg n [] []
  | cons {x : Str} {C : Addr} {s : Str} {j kk : Nat} {p1 p2 p3 p4 p5 p6 p7 : Pos} {hs : List (Addr × Str)} {hds : List ExceptHandler} (hg : sg.names.lookup x = some .globalImplicit) (hm : mg x = some (.ref C)) (T : XfC K C) (hno : PySem.W.findIn K (.ref C) "value" = some none)
      (r : RHs K mg sg n hs hds) (hd : (x == ("__debug__" : Str)) = false := by decide) :
      RHs K mg sg n ((C, s) :: hs) (.ExceptHandler (some (.Name x p1)) (some n) [.Return (some (.Tuple [.Constant (.str s) j p2, .Attribute (.Name n p3) "value" p4] kk p5)) p6] p7 :: hds)
def refTS (i : Nat) (C : Addr) (s : Str) : Addr → Value → Option Addr → TS := fun a cls d => tRet (tTup (tCons (tC (.str s)) (tCons (tXf a cls d C "value" (tVar i)) tNil)))
theorem rhs_as {X : Cx} {n : Str} {i : Nat} {hs : List (Addr × Str)} {hds : List ExceptHandler} (hi : X.N[i]? = some n) (hln : X.env.kindOf n = some .local) (hd : (n == ("__debug__" : Str)) = false) (hcd : (n == ("__classdict__" : Str)) = false)
    (hG : ∀ x, X.env.scope.names.lookup x = some .globalImplicit → Gl X x) (h : RHs X.K X.mg X.env.scope n hs hds) : HdsAs X n hds (hs.map fun q => (.ref q.1, refTS i q.1 q.2)) := by
  induction h with
  | nil => exact .nil
  | cons hg hm T hno r hdx ih =>
    refine HdsAs.cons ⟨hG _ hg, hdx, .inl hm⟩ (fun a oe cls d pn hz hf => ?_) ih
    exact pss_one (ps_ret (pe_tup (pa_cons pe_str (pa_cons (pe_xf T hno hz hf (pe_var (X := X.suite a ((a, oe) :: pn)) (i := i) hi (.inl hln) hd hcd) ) pa_nil))))
theorem ref_wish {K : PySem.W.Frag} {i L : Nat} {Wout : WX} {D : Ends} {σ : L2.St} {H : Hp} {d : Option Addr} (hi : i < L) {C dd : Addr} {fs : List (Str × V)} {v : V} (hd : d = some dd) (hx : H dd = some (.xd fs)) (hv : fs.lookup ("value" : Str) = some v) :
    ∀ (hs : List (Addr × Str)) (s : Str), (∀ q ∈ hs, PySem.W.exmOne K (.ref C) (.ref q.1) = some (decide (C = q.1))) → hs.lookup C = some s → (∀ p, H p = none → D.rt (.ref p) (upd H p (.tup [.str s, v]))) →
    wManyAs K i L Wout D (hs.map fun q => (.ref q.1, refTS i q.1 q.2)) (.ref C) d σ H
  | [], s, _, h, _ => by cases h
  | (C', s') :: hs, s, he, hl, q => by
    refine ⟨decide (C = C'), he _ List.mem_cons_self, fun hb hσ a ha => ?_, fun hb => ?_⟩
    · have e : C = C' := of_decide_eq_true hb
      subst e
      rw [show (((C, s') :: hs).lookup C) = some s' by simp [List.lookup]] at hl
      cases hl
      refine ⟨.ref a, by rw [List.getElem?_set_self (by rw [hσ]; exact hi)], rfl, rfl, dd, fs, v, hd, hx, hv, ?_, q⟩
      show 2 ≤ sizeLine
      decide
    · have e : C ≠ C' := of_decide_eq_false hb
      have e2 : (C == C') = false := by simpa using e
      rw [show (((C', s') :: hs).lookup C) = hs.lookup C by simp [List.lookup, e2]] at hl
      exact ref_wish hi hd hx hv hs s (fun q hq => he q (List.mem_cons_of_mem _ hq)) hl q
theorem refused_gives {X : Cx} {Ng : List Str} {x a n q : Str} {sg : Scope} {g : Addr} {cdg : Value} {i j : Nat} {k2 j2 : Nat} {hds : List ExceptHandler} {h₀ : ExceptHandler} {hs : List (Addr × Str)} {p1 p2 p3 p4 p5 p6 p7 p8 : Pos} (hN : Ng.Nodup) (hi : Ng[i]? = some n) (hln : sg.names.lookup n = some .local)
    (hd : (n == ("__debug__" : Str)) = false) (hcd : (n == ("__classdict__" : Str)) = false) (hR : RHs X.K X.mg sg n hs (h₀ :: hds)) (hex : ∀ C s, hs.lookup C = some s → ∀ q ∈ hs, PySem.W.exmOne X.K (.ref C) (.ref q.1) = some (decide (C = q.1)))
    (h0 : ∀ f : Addr, (L2.start Ng [V.ref f])[0]? = some (some (V.ref f)))
    (hsw : ∀ (pn : List (Addr × Obj)) (xe : Value → Shared → Prop) (s : Shared) (H : Hp), swapsWith (.Call (.Name a p1) [] [] p2) none p3.line ((cxOf C8.CX0 X.prog X.w X.K X.mg X.base Ng x sg g cdg X.A X.stack s H C8.E0).tr pn xe).env = pure false := by intros; rfl) :
    LamX.GivesTo X Ng x sg g cdg [.Try [.Expr (.Call (.Name a p1) [] [] p2) p3] (h₀ :: hds) [] [] p4, .Return (some (.Tuple [.Constant (.str "") j p5, .Constant .none j2 p6] k2 p7)) p8] a q (TTref hs) := by
  intro f c' s H Q tl act hc h
  have hil : i < Ng.length := (List.getElem?_eq_some_iff.mp hi).1
  refine ⟨_, pss_cons (ps_try_manyAs (X := (cxOf C8.CX0 X.prog X.w X.K X.mg X.base Ng x sg g cdg X.A X.stack s H C8.E0).nox) (n := n) (i := i)
      (tb := fun W D σ H => ∃ Ech : XK, (∀ cls d σ' H', Ech cls d H' → W cls d σ' H') ∧ σ[0]? = some (some (.ref f)) ∧ H c' = some (LamX.CodeO c' q) ∧ tl Ech H (fun _ H1 => D.nx σ H1))
      rfl rfl hN hi hln takes0 (fun W pn xe tk _ => ?_) (rhs_as (X := (cxOf C8.CX0 X.prog X.w X.K X.mg X.base Ng x sg g cdg X.A X.stack s H C8.E0).nox) hi hln hd hcd (fun _ h => h) hR)) (pss_one (ps_ret (pe_tup (pa_cons pe_str (pa_cons pe_non pa_nil))))), ?_⟩
  · refine ⟨fun pins s' σ H' D I h' => ?_⟩
    obtain ⟨Ech, hW, h1, h2, h4⟩ := h'
    have hp := act W pn xe Ech p1 p2 tk hW
    have hq := pss_one (ps_expr (pos := p3) hp (hsw pn xe s H))
    exact hq.run pins s' σ H' D I ⟨h1, h2, h4⟩
  · refine ⟨refEch hs Q, fun cls d σ' H' he => ?_, h0 f, hc, ?_⟩
    · obtain ⟨C, dd, fs, v, s1, rfl, e1, e2, e3, e4, e5⟩ := he
      exact ref_wish hil e1 e2 e3 hs s1 (hex C s1 e4) e4 e5
    · exact h
end VL
set_option Elab.async false
set_option linter.all false
set_option maxRecDepth 100000
set_option maxHeartbeats 4000000
namespace VL
open PySem PySem.Spec PyProof.Rows L2
section
variable {G : Gm} {X : Cx} {k : Nat} {Wx : WX} {σ : L2.St} {w w' : Wd} {ρ : Rho} {Dn : Ends}
/-! ### _law_refused(lambda: e) -/
def eRef (hs : List (Nat × Str)) (f : Sem Vl) : Sem Vl := fun ρ W => match f ρ W with
  | .ok _ W1 => .ok (.d (.tup [.str "", .non])) W1
  | .exc c [y] W1 => match hs.lookup c with
    | some s => .ok (.d (.tup [.str s, y])) W1
    | none => .bad
  | _ => .bad
/-- the tables grow -/
def Wd.tabs (w : Wd) (H1 : Hp) : Wd := { w with H := H1 }
theorem le_tabs {H1 : Hp} (e : LamX.ExtN w.H H1) : Le w (w.tabs H1) :=
  ⟨fun _ _ h => h, Nat.le_refl _, fun _ _ => rfl, fun a o h _ ht => e a o h ht, fun _ _ _ _ h _ => h, fun i h1 h2 => absurd h2 (Nat.not_lt.mpr h1), fun a h => by
    have h' : Loose (H1 a) := h
    cases q : w.H a with
    | none => exact .inl rfl
    | some o =>
      by_cases ht : ∃ ps, o = .tbl ps
      · obtain ⟨ps, rfl⟩ := ht; exact .inr ⟨ps, rfl⟩
      · rw [e a o q (fun ps z => ht ⟨ps, z⟩)] at h'
        exact h'⟩
theorem repO_nt {a : Addr} {x : O} {o : HO} (al : x.alive = true) (r : RepO G w a x) (e : w.H a = some o) : ∀ ps, o ≠ .tbl ps := fun ps z => by
  subst z
  cases x with
  | lst ds => obtain ⟨vs, h1, _⟩ := r; rw [e] at h1; cases h1
  | dic t kvs => cases t <;> (obtain ⟨kv, h1, _⟩ := r; rw [e] at h1; cases h1)
  | lck t kvs => cases t <;> (obtain ⟨_, kv, h1, _⟩ := r; rw [e] at h1; cases h1)
  | ins c fs => obtain ⟨_, vs, h1, _⟩ := r; rw [e] at h1; cases h1
  | dead => cases al
theorem good_tabs {H1 : Hp} (g : Good G w) (e : LamX.ExtN w.H H1) (t : LamX.Tabs G.T H1) : Good G (w.tabs H1) := by
  have l := le_tabs (w := w) e
  have keep : ∀ i, i < w.W.length → H1 (w.μ i) = w.H (w.μ i) := fun i hi => by
    have th := g.th i hi
    cases q : w.H (w.μ i) with
    | none => exact absurd (.inl q) th
    | some o => exact e _ _ q fun ps z => th (.inr ⟨ps, by rw [q, z]⟩)
  refine ⟨fun a o h => ?_, fun i x e1 al => ?_, g.inj, t, g.nt, fun i hi => ?_⟩
  · have h' : w.Hs a = some o := h
    rcases g.sh a o h' with z | ⟨od, z, d⟩
    · exact .inl (e _ _ z fun ps q => g.nt a ps (by rw [h', q]))
    · exact .inr ⟨od, e _ _ z (fun ps q => by cases q), d⟩
  · obtain ⟨h1, h2⟩ := g.ob i x e1 al
    exact ⟨h1, h2.mono l (keep i (List.getElem?_eq_some_iff.mp e1).1)⟩
  · show ¬ Loose (H1 (w.μ i))
    rw [keep i hi]; exact g.th i hi
/-- the words of the clauses, by their classes' addresses -/
def hsA (G : Gm) (hs : List (Nat × Str)) : List (Addr × Str) := hs.map fun q => (G.ca q.1, q.2)
theorem hsA_lookup {c : Nat} {s : Str} : ∀ {hs : List (Nat × Str)}, (∀ q ∈ hs, G.ca c = G.ca q.1 → c = q.1) → hs.lookup c = some s → (hsA G hs).lookup (G.ca c) = some s
  | [], _, h => by cases h
  | (c', s') :: hs, hi, h => by
    show ((G.ca c', s') :: hsA G hs).lookup (G.ca c) = some s
    by_cases e : c = c'
    · subst e
      simp [List.lookup] at h ⊢
      exact h
    · have e2 : ¬ G.ca c = G.ca c' := fun z => e (hi (c', s') List.mem_cons_self z)
      have b1 : (c == c') = false := by simpa using e
      have b2 : (G.ca c == G.ca c') = false := by simpa using e2
      simp only [List.lookup, b1] at h
      simp only [List.lookup, b2]
      exact hsA_lookup (fun q hq => hi q (List.mem_cons_of_mem _ hq)) h
theorem ref_rd {hs : List (Nat × Str)} {f : Sem Vl} {H : Hp} {Q : VK} (hinj : ∀ q ∈ hs, ∀ c, G.ca c = G.ca q.1 → c = q.1) (hfd : ∀ c s, hs.lookup c = some s → (G.fd c)[0]? = some ("value" : Str)) (hh : tE G Wx (eRef hs f) σ H Q) :
    LamX.tLam G.T (TTref (hsA G hs)) (fun E => tE G (WEx E) f) σ H Q := by
  obtain ⟨w, ρ, rfl, gd, er, p⟩ := hh
  refine ⟨gd.tb, fun H1 e t => ?_⟩
  have l := le_tabs (w := w) e
  have g1 := good_tabs gd e t
  refine ⟨w.tabs H1, ρ, rfl, g1, er.mono l, ?_⟩
  have p' := Post.le p l
  unfold eRef at p'
  show Post G (RepV G) (WEx (refEch (hsA G hs) Q)) σ (w.tabs H1) (f ρ w.W) _
  cases ef : f ρ w.W with
  | bad => rw [ef] at p'; exact p'
  | ok d W1 =>
    rw [ef] at p'
    intro w2 v l2 g2 eW rv
    refine ⟨by show 2 ≤ sizeLine; decide, fun q hq => ?_⟩
    have pw : Want G w2 (.tup [.str "", .non]) Q := fun w3 v3 l3 g3 eW3 r3 => p' w3 v3 (l2.trans l3) g3 (eW3.trans eW) r3
    exact want_new pw g2 (fun _ z => by cases z) hq ⟨q, _, rfl, upd_same, Reps.cons rfl (Reps.one rfl)⟩
  | exc c fs W1 =>
    rw [ef] at p'
    cases fs with
    | nil => exact p'.elim
    | cons y ys =>
      cases ys with
      | cons _ _ => exact p'.elim
      | nil =>
        cases el : hs.lookup c with
        | none => simp only [el] at p'; exact p'.elim
        | some s =>
          simp only [el] at p'
          intro w2 dd l2 g2 eW rx
          obtain ⟨xs, vs, h1, h2, h3⟩ := rx
          obtain ⟨v, r', rfl, rv, e3⟩ := h2
          have e3' : r' = [] := e3
          subst e3'
          refine ⟨G.ca c, dd, xs, v, s, rfl, rfl, h1, h3 0 "value" v (hfd c s el) rfl, hsA_lookup (fun q hq e => hinj q hq c e) el, fun q hq => ?_⟩
          have pw : Want G w2 (.tup [.str s, y]) Q := fun w3 v3 l3 g3 eW3 r3 => p' w3 v3 (l2.trans l3) g3 (eW3.trans eW) r3
          exact want_new pw g2 (fun _ z => by cases z) hq ⟨q, _, rfl, upd_same, Reps.cons rfl (Reps.one (Rep.mono (le_new g2 hq) _ _ rv))⟩
theorem se_ref {x a : Str} {g c P : Addr} {pg : Arguments} {bg : List Stmt} {sg : Scope} {dV kV doc pm cdv ct oc : Value} {an od : Option Addr} {osl : Array (Option Value)} {Ng : List Str} {hs : List (Nat × Str)} {f : Sem Vl}
    {params : Arguments} {body : Expr} {scope : Scope} {p lpos pos : Pos} (vc : VC G X (k + 2) Wx) (hg : Gl X x) (hm : X.mg x = some (.ref g)) (hk : PySem.W.keepIn X.K (.ref g) = true)
    (lk : X.K.lookup g = some ⟨oc, od, .func (PySem.W.fnOf x x pg bg sg dV kV doc pm an cdv ct), osl⟩) (hcg : PySem.W.codeIn X.K cdv x = true) (hb : L2.Binds X.K (PySem.W.fnOf x x pg bg sg dV kV doc pm an cdv ct) [a] []) (Sg : FnScope Ng [a] sg) (hNg : Ng[0]? = some a) (hva : Vis sg a)
    (hG : LamX.GivesTo X Ng x sg g cdv bg a (X.env.qual ++ "<lambda>") (TTref (hsA G hs)))
    (TB : LamX.TabB X.base X.mg c P) (hcode : X.env.code = .ref c) (hmT : (P, X.env.qual ++ "<lambda>") ∈ G.T) (hu : ∀ p ∈ G.T, p.1 = P → p.2 = X.env.qual ++ "<lambda>") (L : LamX.LamS X.env.scope scope) (hdef : defaultsOf params X.env = ([], []))
    (hbind : ∀ (q : Str) (cl : List (Str × Addr)) (pm cv ctv : Value), bindArgs (PySem.W.kla_fn "<lambda>" q params body scope cl pm cv ctv) ⟨[], []⟩ = pure [])
    (hinj : ∀ q ∈ hs, ∀ c, G.ca c = G.ca q.1 → c = q.1) (hfd : ∀ c s, hs.lookup c = some s → (G.fd c)[0]? = some ("value" : Str))
    (hbody : ∀ (A : Around) (outer : List Env) (s : Shared) (H : Hp) (E : XK) (f0 c' : Addr), VC G (LamX.lamCx X A outer s H E scope f0 c') k (WEx E) → SE G (LamX.lamCx X A outer s H E scope f0 c') (WEx E) body f)
    (hdb : (x == ("__debug__" : Str)) = false := by decide) (hd : (a == ("__debug__" : Str)) = false := by decide) (hcd : (a == ("__classdict__" : Str)) = false := by decide) :
    SE G X Wx (.Call (.Name x p) [.Lambda params body scope lpos] [] pos) (eRef hs f) :=
  PE.imp (LamX.pe_lamcall hg hm hk lk hcg hb Sg hNg hva hG TB hcode hmT hu vc.hr L hdef hbind
    (fun A outer s H E f0 c' hr => hbody A outer s H E f0 c' ⟨vc.K, rfl, vc.nd, takes_of rfl rfl rfl rfl, passes_of rfl, hr⟩) hdb hd hcd) fun σ H Q hh => ref_rd hinj hfd hh
end
end VL
set_option Elab.async false
set_option linter.all false
set_option maxRecDepth 100000
set_option maxHeartbeats 4000000
namespace VL
open PySem PySem.Spec PyProof.Rows L2
section
variable {G : Gm} {X : Cx} {k : Nat} {Wx : WX} {σ : L2.St} {w w' : Wd} {ρ : Rho} {Dn : Ends}
/-! ### x(e, ..), x a slot that holds a def -/
structure FnAt (G : Gm) (X : Cx) (k : Nat) (f : Addr) (n : Nat) (g : List Vl → List O → Res Vl) : Prop where
  ex : ∃ (fd : FuncData) (ps : List Str), FnOk X.prog X.w X.K X.mg X.base (L2.CX X.prog X.w) k f fd ps (spI G n g) ∧ PySem.W.keepIn X.K (.ref f) = true ∧ Binds X.K fd ps []
def tCallF (i : Nat) (S : Addr → Option Sp) (E : L2.St → XK) (t : TA) : TE := fun σ H Q => ∃ f sp, σ[i]? = some (some (.ref f)) ∧ S f = some sp ∧ t σ H fun vs H1 => sp vs H1 Q (E σ)
theorem pe_callF {i : Nat} {x : Str} {CX : CXT} {S : Addr → Option Sp} {E : L2.St → XK} {e : Expr} {es : List Expr} {t : TA} {p pos : Pos} (A : ∀ f sp, S f = some sp → ∃ (fd : FuncData) (ps : List Str), FnOk X.prog X.w X.K X.mg X.base CX k f fd ps sp ∧ PySem.W.keepIn X.K (.ref f) = true ∧ Binds X.K fd ps [])
    (hr : Room k X.A) (hN : X.N[i]? = some x) (hv : Vis X.env.scope x) (hx : ∀ σ, PassesAt CX X σ (E σ)) (ha : PA X (e :: es) t) (hdb : (x == ("__debug__" : Str)) = false := by decide) (hcd : (x == ("__classdict__" : Str)) = false := by decide)
    (he : starEach (e :: es) X.env = (false, eval e X.env) :: starEach es X.env := by rfl) (hpl : (backTo pos (starEach es X.env)).any (·.1) = false := by rfl) : PE X (.Call (.Name x p) (e :: es) [] pos) (tCallF i S E t) := by
  refine ⟨fun pins s σ H Q I h => ?_⟩
  obtain ⟨f, sp, hs, hS, ht⟩ := h
  obtain ⟨fd, ps, F, hk, hb⟩ := A f sp hS
  refine wpAny_Call_Name_kw (thn ((pe_var (pos := p) hN hv hdb hcd).run pins s σ H (fun v H1 => v = .ref f ∧ H1 = H) I ⟨.ref f, hs, rfl, rfl⟩) fun u s1 ⟨v, H1, I1, r1, q1⟩ => ?_)
  obtain ⟨rfl, rfl⟩ := q1
  cases r1
  refine PySem.W.callWith_K (h₀ := X.base) I.ok.mod.kin hk (thn (ha.run pos pins s1 σ _ _ I1 ht) fun us s2 ⟨vs, H2, I2, r, q⟩ => ⟨I2.kIn, ?_⟩) he hpl
  exact run_fnSD (dvs := []) (ds := []) F hr hb .nil (hx σ) I2 r (by rw [List.append_nil]; exact q)
def eFunV (i : Nat) (tbl : Nat → Option (Nat × (List Vl → List O → Res Vl))) (fs : Sem (List Vl)) : Sem Vl := fun ρ W => match ρ[i]? with
  | some (some (.d (.fn j))) => match tbl j with
    | some ng => (fs ρ W).bind fun as W1 => if as.length = ng.1 then ng.2 as W1 else .bad
    | none => .bad
  | _ => .bad
theorem se_callV {i : Nat} {x : Str} {tbl : Nat → Option (Nat × (List Vl → List O → Res Vl))} {j : Nat} {e : Expr} {es : List Expr} {fs : Sem (List Vl)} {p pos : Pos} (vc : VC G X k Wx) (hj : j ≤ k)
    (hT : ∀ a ng, tbl a = some ng → FnAt G X j (G.fa a) ng.1 ng.2) (ha : SA G X Wx (e :: es) fs) (hN : X.N[i]? = some x := by rfl) (hv : Vis X.env.scope x := by first | exact Or.inl rfl | exact Or.inr (Or.inl rfl) | exact Or.inr (Or.inr rfl))
    (hdb : (x == ("__debug__" : Str)) = false := by decide) (hcd : (x == ("__classdict__" : Str)) = false := by decide)
    (he : starEach (e :: es) X.env = (false, eval e X.env) :: starEach es X.env := by rfl) (hpl : (backTo pos (starEach es X.env)).any (·.1) = false := by rfl) : SE G X Wx (.Call (.Name x p) (e :: es) [] pos) (eFunV i tbl fs) := by
  refine ⟨fun pins s σ H Q I hh => ?_⟩
  obtain ⟨w, ρ, rfl, gd, er, q⟩ := hh
  unfold eFunV at q
  split at q
  · rename_i a ea
    split at q
    · rename_i ng eb
      obtain ⟨fd, ps, F, hk, hb⟩ := (hT a ng eb).ex
      obtain ⟨v, ev, rv⟩ := er.get ea
      have rv' : v = .ref (G.fa a) := rv
      subst rv'
      refine (pe_callF (i := i) (S := fun f => if f = G.fa a then some (spI G ng.1 ng.2) else none) (E := fun σ cls d H => Wx cls d σ H) (k := k) (fun f sp hS => ?_) vc.hr hN hv (fun σ => passAt vc.tk σ) ha hdb hcd he hpl).run pins s σ w.H Q I ?_
      · by_cases h : f = G.fa a
        · rw [if_pos h] at hS
          cases hS
          subst h
          exact ⟨fd, ps, F.mono hj, hk, hb⟩
        · rw [if_neg h] at hS; cases hS
      · refine ⟨G.fa a, _, ev, if_pos rfl, w, ρ, rfl, gd, er, (Post.bind (R := RepVs G) q).mono fun vs H1 ⟨w1, ds, e1, l1, g1, r1, q1⟩ => ?_⟩
        subst e1
        split at q1
        · rename_i hl
          exact ⟨w1, ds, rfl, g1, r1, hl, by
            cases e2 : ng.2 ds w1.W with
            | bad => rw [e2] at q1; exact q1
            | exc c fs W2 => rw [e2] at q1; exact q1
            | ok d W2 => rw [e2] at q1; exact q1⟩
        · exact q1.elim
    · exact q.elim
  · exact q.elim
end
end VL
set_option Elab.async false
set_option linter.all false
set_option maxRecDepth 100000
set_option maxHeartbeats 4000000
namespace VL
open PySem PySem.Spec PyProof.Rows L2
/-! ### raise C(e), C's __init__ keeps value -/
def spVI (K : PySem.W.Frag) : Sp := fun vs H Q _ => ∃ (a C : Addr) (y : V), vs = [.ref a, y] ∧ OexC K C ∧ H a = some (exo a C none) ∧ PySem.W.findIn K (.ref C) "value" = some none ∧
  ∀ dx, H dx = none → dx ≠ a → Q .non (upd (upd H dx (exd dx [("value", y)])) a (exo a C (some dx)))
theorem ok_vinit {P : Program} {w : World} {K : PySem.W.Frag} {mg : Str → Option Value} {base : Heap} {qual : Str} {args : Arguments} {sc : Scope} {f : Addr} {fd : FuncData} {p1 p2 p3 p4 : Pos} (F : FunD K "__init__" qual args [.Assign [.Attribute (.Name "self" p1) "value" p2] (.Name "value" p3) p4] sc [.non] [] f fd) (S : FnScope ["self", "value"] ["self", "value"] sc)
    (l1 : sc.names.lookup ("self" : Str) = some .local) (l2 : sc.names.lookup ("value" : Str) = some .local) : FnOk P w K mg base CX0 1 f fd ["self", "value"] (spVI K) := by
  refine F.ok S (fun vs H Q E h => ?_) (fun cdv A outer s H vs Q E hr h => ?_)
  · obtain ⟨a, C, y, rfl, _⟩ := h; rfl
  · obtain ⟨a, C, y, rfl, T, e, hno, q⟩ := h
    refine ⟨_, pss_one (ps_ost (pe_var (i := 0) rfl (.inl l1)) (pe_var (i := 1) rfl (.inl l2))), ?_⟩
    exact ⟨y, rfl, .ref a, rfl, a, C, rfl, T, hno, .inl ⟨e, fun dx h1 h2 => q dx h1 h2⟩⟩
theorem binds_vinit {K : PySem.W.Frag} {qual : Str} {args : Arguments} {sc : Scope} {body : List Stmt} {f : Addr} {fd : FuncData} (F : FunD K "__init__" qual args body sc [.non] [] f fd)
    (h : ∀ (T : Addr) (kV doc pm : Value) (an : Option Addr) (cdv ct : Value) (us its : List Value), us.length = 2 → its.length = 1 →
      ∃ k, bindArgs (PySem.W.fnOf "__init__" qual args body sc (.ref T) kV doc pm an cdv ct) ⟨us, []⟩ = seqItems? (.ref T) >>= k ∧ k (some its.toArray) = pure ((["self", "value"] : List Str).zip (us ++ its.drop 1))) : Binds K fd ["self", "value"] [] := by
  obtain ⟨ds, h1, h2⟩ := F.binds1 (ps := ["self", "value"]) 2 1 (by simp) rfl h
  cases h1
  exact h2
section
variable {G : Gm} {X : Cx} {k : Nat} {Wx : WX} {σ : L2.St} {w w' : Wd} {ρ : Rho} {Dn : Ends}
structure ExAt (G : Gm) (K : PySem.W.Frag) (mg : Str → Option Value) (fI : Addr) (x : Str) (c : Nat) : Prop where
  T : OexC K (G.ca c)
  iC : PySem.W.findIn K (.ref (G.ca c)) "__init__" = some (some (.ref fI))
  hv : PySem.W.findIn K (.ref (G.ca c)) "value" = some none
  hm : mg x = some (.ref (G.ca c))
  fd : G.fd c = [("value" : Str)]
structure InitAt (P : Program) (w : World) (K : PySem.W.Frag) (mg : Str → Option Value) (base : Heap) (fI : Addr) : Prop where
  tI : PySem.W.typeIn K (.ref fI) = some (.type "function")
  F : ∃ fd : FuncData, FnOk P w K mg base CX0 1 fI fd ["self", "value"] (spVI K) ∧ Binds K fd ["self", "value"] []
def sRaise (c : Nat) (fs : Sem (List Vl)) : SemS := fun ρ W => liftS (fs ρ W) ρ fun as W1 => match pureL as with
  | some [y] => .exc c [y] ρ W1
  | _ => .bad
theorem ss_raise {x : Str} {c : Nat} {fI : Addr} {e : Expr} {fs : Sem (List Vl)} {p pos pos' : Pos} (vc : VC G X (k + 2) Wx) (I : InitAt X.prog X.w X.K X.mg X.base fI) (E : ExAt G X.K X.mg fI x c) (hg : Gl X x) (ha : SA G X Wx [e] fs) (hdb : (x == ("__debug__" : Str)) = false := by decide)
    (he : starEach [e] X.env = (false, eval e X.env) :: starEach [] X.env := by rfl) (hpl : (backTo pos (starEach [] X.env)).any (·.1) = false := by rfl) :
    SS G X Wx (.Raise (some (.Call (.Name x p) [e] [] pos)) none pos') (sRaise c fs) := by
  obtain ⟨fd, F, hb⟩ := I.F
  refine PS.imp (ps_raise vc.calm vc.tk (pmk_oex (dvs := []) (ds := []) E.T E.iC I.tI F (vc.hr.mono (by omega)) hb .nil pass0 hg E.hm ha hdb he hpl)) fun D σ H hh => ?_
  refine lift1 (R := RepVs G) hh fun ρ w vs as gd er r p => ?_
  split at p
  · rename_i y ey
    have r1 := pure_reps r ey
    obtain ⟨v, r', rfl, rv, er'⟩ := r1
    have e2 : r' = [] := er'
    subst e2
    refine ⟨by show 1 ≤ 1000; decide, fun a ha => ⟨a, G.ca c, v, rfl, E.T, upd_same, E.hv, fun dx h1 h2 => ⟨rfl, dx, [("value", v)], upd_same, by rw [upd_ne h2, upd_same], ?_, ?_⟩⟩⟩
    · rw [upd_ne h2] at h1; exact h1
    · have h1' : w.H dx = none := by rw [upd_ne h2] at h1; exact h1
      have eH : upd (del (upd (upd (upd w.H a (exo a (G.ca c) none)) dx (exd dx [("value", v)])) a (exo a (G.ca c) (some dx))) a) dx (.xd [("value", v)]) = (priv w dx (.xd [("value", v)])).H := by
        show _ = upd w.H dx _
        funext b
        by_cases hb : b = dx
        · rw [hb, upd_same, upd_same]
        · rw [upd_ne hb, upd_ne hb]
          by_cases hba : b = a
          · rw [hba, del_same, ha]
          · rw [del_ne hba, upd_ne hba, upd_ne hb, upd_ne hba]
      rw [eH]
      refine p (priv w dx (.xd [("value", v)])) σ dx (le_priv h1') (good_priv gd h1') rfl (er.mono (le_priv h1')) ⟨_, [v], upd_same, Reps.one (Rep.mono (le_priv h1') _ _ rv), fun i f u e1 e2 => ?_⟩
      rw [E.fd] at e1
      match i with
      | 0 =>
        cases e1; cases e2
        rfl
      | i + 1 => simp at e1
  · exact p.elim
end
end VL
set_option Elab.async false
set_option linter.all false
set_option maxRecDepth 100000
set_option maxHeartbeats 4000000
namespace VL
open PySem PySem.Spec PyProof.Rows L2 LamX
/-- the law's call at the top, where no repr runs -/
theorem law_callG {P : Program} {w : World} {K : PySem.W.Frag} {mg mb : Str → Option Value} {CX : CXT} {fa a : Addr} {cs : List (Addr × Addr)} {s₁ : Shared} {vs : List Value} {ns : List Int}
    (KX : K.In s₁.heap) (hns : s₁.heap.Ns mainGlobals mg) (hb : s₁.heap.Ns builtinsNs mb) (hbb : ∀ x : Str, x ≠ "__name__" → mb x = bootBuiltins x) (hlim : s₁.heap.NoLimit) (hg : s₁.gens = #[])
    (hT : ∀ p ∈ cs, s₁.heap.get? p.2 = some { cls := .none, data := .fields #[] }) (nT : ∀ p ∈ cs, K.lookup p.2 = none) (C : ∀ p ∈ cs, PySem.W.CodeHd s₁.heap p.1 p.2)
    (hbm : ∃ (bm : Addr) (ob : Obj), mg "__builtins__" = some (.ref bm) ∧ bm ≠ builtinsNs ∧ s₁.heap.get? bm = some ob ∧ ob.cls = .type "module" ∧ ob.dict = some builtinsNs ∧ ob.data = .plain)
    (ha : s₁.heap.get? a = some { cls := .type "list", data := .seq vs.toArray }) (hi : IntsAre vs ns) (hl : ns.length ≤ sizeLine)
    (F : ∀ (base : Heap) (H : Hp), K.In base → base.Ns mainGlobals mg → (∀ p ∈ cs, TabB base mg p.1 p.2) → Env0 P w K mg base callerA [] s₁ H → (∀ p ∈ cs, H p.2 = some (.tbl #[])) → SqL K H a (ns.map V.int) →
      codeAny (model P w) callerA (.call (.ref fa) ⟨[.ref a], []⟩) (CR CX [] P w H s₁ (fun v _ => v = .bl true) fun _ _ _ => False) s₁)
    (hCX : ∀ H e s', CX [] H s₁ (fun _ _ _ => False) e s' → False) :
    codeAny (model P w) callerA (.call (.ref fa) ⟨[.ref a], []⟩) (fun r s' => r = .ok (.ret (.bool true)) ∧ OldK s₁.heap s'.heap ∧ s'.os = s₁.os ∧ AllBare s'.gens) s₁ := by
  have rvs := vals_ints hi
  have lnV := hi.length
  have tabT : ∀ b : Addr, b ∈ cs.map (·.2) → s₁.heap.get? b = some { cls := .none, data := .fields #[] } := fun b hb => by
    obtain ⟨p, hp, e⟩ := List.mem_map.mp hb
    rw [← e]
    exact hT p hp
  have naT : a ∉ cs.map (·.2) := fun z => by
    have q := tabT a z
    rw [ha] at q
    have z3 : Data.seq vs.toArray _ = Data.fields #[] := congrArg Obj.data (Option.some.inj q)
    cases z3
  have inT : ∀ p ∈ cs, p.2 ∈ cs.map (·.2) := fun p hp => List.mem_map.mpr ⟨p, hp, rfl⟩
  -- from an abstract heap in which nothing but the script and the tables may be tracked
  have kern : ∀ H : Hp, (∀ p ∈ cs, H p.2 = some (.tbl #[])) → (∀ b, H b = none ∨ b ∈ cs.map (·.2) ∨ ∃ o xs, H b = some (.frz o (.lst xs))) → SqL K H a (ns.map V.int) → HOk P w H s₁.heap → (∀ b, H b ≠ none → b = a ∨ b ∈ cs.map (·.2)) → (H a ≠ none → K.lookup a = none) →
      codeAny (model P w) callerA (.call (.ref fa) ⟨[.ref a], []⟩) (fun r s' => r = .ok (.ret (.bool true)) ∧ OldK s₁.heap s'.heap ∧ s'.os = s₁.os ∧ AllBare s'.gens) s₁ := by
    intro H hTb hOf hSq hHok hAt hKn
    have bOf : ∀ {b : Addr} {o : Obj}, s₁.heap.get? b = some o → H b = none → (hidT s₁.heap H).get? b = some o := fun e n => hidT_get e n
    have nD : ∀ {b : Addr} {o : Obj}, s₁.heap.get? b = some o → (∀ vs n, o.data ≠ .seq vs n) → o.data ≠ .fields #[] → H b = none := fun {b o} e h1 h2 => by
      cases q : H b with
      | none => rfl
      | some u =>
        rcases hAt b (by rw [q]; simp) with e' | e'
        · rw [e', ha] at e
          cases e
          exact (h1 _ _ rfl).elim
        · rw [tabT b e'] at e
          cases e
          exact (h2 rfl).elim
    have nE : ∀ {b : Addr} {o : Obj} {es : Array DictEntry} {ep : Nat}, s₁.heap.get? b = some o → o.data = .dict es ep → H b = none := fun {b o es ep} e d => by
      refine nD e (fun vs n z => ?_) fun z => ?_
      · rw [d] at z
        cases z
      · rw [d] at z
        cases z
    have nsM : ∀ {b : Addr} {m : Str → Option Value}, s₁.heap.Ns b m → (hidT s₁.heap H).Ns b m := fun {b m} ⟨o, es, ep, e, d, r⟩ => ⟨o, es, ep, bOf e (nE e d), d, r⟩
    have kB : K.In (hidT s₁.heap H) := fun b o e => bOf (KX b o e) (by
      cases q : H b with
      | none => rfl
      | some u =>
        rcases hAt b (by rw [q]; simp) with e' | e'
        · rw [e'] at e q
          rw [hKn (by rw [q]; simp)] at e
          cases e
        · obtain ⟨p, hp, ep⟩ := List.mem_map.mp e'
          rw [← ep, nT p hp] at e
          cases e)
    have mO : L2.Mod K mg (hidT s₁.heap H) := ⟨kB, nsM hns, ⟨mb, nsM hb, hbb⟩, let ⟨mc, h1, h2⟩ := hlim; ⟨mc, nsM h1, h2⟩⟩
    have tB : ∀ p ∈ cs, TabB (hidT s₁.heap H) mg p.1 p.2 := fun p hp => by
      have hTq := hT p hp
      refine ⟨?_, ?_, fun z => ?_⟩
      · obtain ⟨o, us, file, tf, flags, tg, inF, text, tt, e1, r1, r2, r3, r4, r5, r6, r7, r8, hne⟩ := C p hp
        refine ⟨o, us, file, tf, flags, tg, inF, text, tt, bOf e1 (nD e1 (fun vs n z => ?_) fun z => ?_), r1, r2, r3, r4, r5, r6, r7, r8, hne⟩
        · rw [r2] at z
          cases z
        · rw [r2] at z
          cases z
          simp at r3
      · obtain ⟨bm, ob, b1, b2, b3, b4, b5, b6⟩ := hbm
        have nMg : bm ≠ mainGlobals := fun q => by
          obtain ⟨o, es, ep, e, hd, _⟩ := hns
          rw [q, e] at b3
          cases b3
          rw [hd] at b6
          cases b6
        have nPq : bm ≠ p.2 := fun q => by
          rw [q, hTq] at b3
          cases b3
          cases b6
        refine ⟨bm, ob, b1, b2, nMg, nPq, bOf b3 (nD b3 (fun vs n z => ?_) fun z => ?_), b4, b5, b6⟩
        · rw [b6] at z
          cases z
        · rw [b6] at z
          cases z
      · obtain ⟨o, es, ep, e, hd, _⟩ := hns
        rw [z, hTq] at e
        cases e
        cases hd
    have en : Env0 P w K mg (hidT s₁.heap H) callerA [] s₁ H := ⟨rfl, mO, fun b o e => of_hidT e, Nat.le_of_eq (hidT_size _ _), trivial, fun b hb => absurd (show b ∈ ([] : List Addr) from hb) (by simp), hHok, .of_eq hg⟩
    refine codeAny_mono (F _ H kB (nsM hns) tB en hTb hSq) fun r s' h => ?_
    cases r with
    | error e => exact (hCX H e s' h).elim
    | ok fl =>
      cases fl with
      | next => exact False.elim h
      | brk => exact False.elim h
      | cont => exact False.elim h
      | ret u =>
        obtain ⟨v, H', oss, brs, unk, hHk2, r', q⟩ := h
        have q' : v = .bl true := q
        subst q'
        obtain rfl : u = Value.bool true := r'
        have kp : ∀ b o, b ∉ cs.map (·.2) → s₁.heap.get? b = some o → s'.heap.get? b = some o := fun b o nb e => by
          cases q : H b with
          | none => exact unk.keep b o e q (by intro z; exact absurd (show b ∈ ([] : List Addr) from z) (by simp)) (by simp)
          | some u =>
            rcases hOf b with z | z | ⟨ob, xs, z⟩
            · rw [q] at z; cases z
            · exact absurd z nb
            · have zz := unk.frzs b ob _ z
              obtain ⟨e1, _⟩ := hHok b _ z
              obtain ⟨e2, _⟩ := hHk2 b _ zz
              rw [e] at e1; cases e1
              exact e2
        have gr : ∀ p ∈ cs, ∃ mr : Array Value, s'.heap.get? p.2 = some { cls := .none, data := .fields mr } := fun p hp => by
          obtain ⟨mr, z⟩ := unk.tbls p.2 #[] (hTb p hp)
          exact ⟨_, hHk2 p.2 _ z⟩
        refine ⟨rfl, ⟨fun b o e => ?_, fun b o e => ?_⟩, oss, brs⟩
        · by_cases hb : b ∈ cs.map (·.2)
          · obtain ⟨p, hp, ep⟩ := List.mem_map.mp hb
            obtain ⟨mr, hmr⟩ := gr p hp
            rw [← ep] at e ⊢
            rw [hT p hp] at e
            cases e
            exact .inr (.inl ⟨((C p hp).tab (hT p hp)).isCodeTable, rfl, #[], mr, rfl, by rw [Array.empty_append]; exact hmr⟩)
          · exact .inl (kp b o hb e)
        · by_cases hb : b ∈ cs.map (·.2)
          · obtain ⟨p, hp, ep⟩ := List.mem_map.mp hb
            obtain ⟨mr, hmr⟩ := gr p hp
            rw [← ep]
            exact ⟨_, hmr⟩
          · exact ⟨o, kp b o hb e⟩
  cases hk : K.lookup a with
  | some o =>
    have e := KX a o hk
    rw [ha] at e
    cases e
    refine kern (fun b => if b ∈ cs.map (·.2) then some (.tbl #[]) else none) (fun p hp => if_pos (inT p hp)) (fun b => ?_) (.inr ⟨_, vs.toArray, _, hk, rfl, rfl, rfl, by rw [List.size_toArray, lnV]; exact hl, by simpa using rvs⟩) (fun b u z => ?_) (fun b z => ?_) fun z => absurd (show (if a ∈ cs.map (·.2) then some (HO.tbl #[]) else none) = none from if_neg naT) z
    · by_cases hb : b ∈ cs.map (·.2)
      · exact .inr (.inl hb)
      · exact .inl (if_neg hb)
    · by_cases hb : b ∈ cs.map (·.2)
      · have z3 := (if_pos hb).symm.trans z
        cases z3
        exact tabT b hb
      · have z3 := (if_neg hb).symm.trans z
        cases z3
    · by_cases hb : b ∈ cs.map (·.2)
      · exact .inr hb
      · exact absurd (if_neg hb) z
  | none =>
    refine kern (fun b => if b = a then some (.frz { cls := .type "list", data := .seq vs.toArray } (.lst (ns.map V.int))) else if b ∈ cs.map (·.2) then some (.tbl #[]) else none) (fun p hp => (if_neg (show ¬ p.2 = a from fun z => naT (by rw [← z]; exact inT p hp))).trans (if_pos (inT p hp))) (fun b => ?_)
      (.inl (.inr ⟨{ cls := .type "list", data := .seq vs.toArray }, if_pos rfl⟩)) (fun b u z => ?_) (fun b z => ?_) fun _ => hk
    · by_cases hb : b = a
      · exact .inr (.inr ⟨_, _, if_pos hb⟩)
      · by_cases hbq : b ∈ cs.map (·.2)
        · exact .inr (.inl hbq)
        · exact .inl ((if_neg hb).trans (if_neg hbq))
    · by_cases hb : b = a
      · have z3 := (if_pos hb).symm.trans z
        cases z3
        rw [hb]
        exact ⟨ha, by rw [List.length_map]; exact hl, vs, _, rvs, ha⟩
      · have zy := (if_neg hb).symm.trans z
        by_cases hbq : b ∈ cs.map (·.2)
        · have z3 := (if_pos hbq).symm.trans zy
          cases z3
          exact tabT b hbq
        · have z3 := (if_neg hbq).symm.trans zy
          cases z3
    · by_cases hb : b = a
      · exact .inl hb
      · by_cases hbq : b ∈ cs.map (·.2)
        · exact .inr hbq
        · exact absurd ((if_neg hb).trans (if_neg hbq)) z
end VL
set_option Elab.async false
set_option linter.all false
set_option maxRecDepth 100000
set_option maxHeartbeats 4000000
namespace VL
open PySem PySem.Spec PyProof.Rows L2
section
variable {G : Gm} {X : Cx} {k : Nat} {Wx : WX} {σ : L2.St} {w w' : Wd} {ρ : Rho} {Dn : Ends}
/-! ### repr, where no repr runs -/
def reprD (a : D) : Option D := match a with
  | .lst _ => (toPy a).bind fun p => if p.showable = true ∧ p.depth ≤ 60 ∧ p.shown.length ≤ sizeLine ∧ p.hasDict = false then some (.str p.shown) else none
  | .tup _ => (toPy a).bind fun p => if p.showable = true ∧ p.depth ≤ 60 ∧ p.shown.length ≤ sizeLine ∧ p.hasDict = false then some (.str p.shown) else none
  | _ => none
def rReprP (K : PySem.W.Frag) : List V → Hp → VK → Prop := fun xs H Q => ∃ (a : Addr) (p : PyData), xs = [.ref a] ∧ Dp K H (.ref a) p ∧ p.showable = true ∧ p.depth ≤ 60 ∧ p.shown.length ≤ sizeLine ∧ p.hasDict = false ∧ Q (.str p.shown) H
theorem call_reprP (hu : X.A.units + 64 < cLine) (hgd : X.A.guards = some []) : CallR X (.builtin "repr") (rReprP X.K) := by
  intro pins s σ H xs us Q I r h
  obtain ⟨a, p, rfl, hd, h1, h2, h3, h4, q⟩ := h
  obtain ⟨u, rfl, ru⟩ := vals1 r
  obtain rfl : u = .ref a := ru
  obtain ⟨as, rd⟩ := Dp.reads I p (.ref a) (.ref a) hd rfl
  refine repr_of_reads' rd h1 (fun z => by rw [h4] at z; cases z) hgd (by omega) (fun _ _ e => e) (fun h' u tk hk => ?_) h3
  exact ⟨.str _, H, I.kept (t' := tk) hk, ⟨_, rfl⟩, q⟩
theorem cs_repr (vc : VC G X k Wx) (hgd : X.A.guards = some []) : CallS G X (.builtin "repr") (one reprD) := cs_one (call_reprP vc.u64 hgd) fun w v a z Q gd r e wn => by
  unfold reprD at e
  split at e
  · rename_i ds
    obtain ⟨p, e1, e2⟩ := Option.bind_eq_some_iff.mp e
    split at e2
    · rename_i hc
      cases e2
      have dp := dp_at (K := X.K) gd r e1
      obtain ⟨a, vs, rfl, _⟩ := r
      exact ⟨a, p, rfl, dp, hc.1, hc.2.1, hc.2.2.1, hc.2.2.2, wn.here (v := V.str _) gd rfl⟩
    · cases e2
  · rename_i ds
    obtain ⟨p, e1, e2⟩ := Option.bind_eq_some_iff.mp e
    split at e2
    · rename_i hc
      cases e2
      have dp := dp_at (K := X.K) gd r e1
      obtain ⟨a, vs, rfl, _⟩ := r
      exact ⟨a, p, rfl, dp, hc.1, hc.2.1, hc.2.2.1, hc.2.2.2, wn.here (v := V.str _) gd rfl⟩
    · cases e2
  · cases e
/-! ### a module's built-in function -/
theorem se_callF {x : Str} {id : String} {g : List D → Option D} {e : Expr} {es : List Expr} {fs : Sem (List Vl)} {p pos : Pos} (ho : CallS G X (.builtin id) g) (hg : Gl X x) (hm : X.mg x = some (.builtin id)) (ha : SA G X Wx (e :: es) fs)
    (hdb : (x == ("__debug__" : Str)) = false := by decide) (he : starEach (e :: es) X.env = (false, eval e X.env) :: starEach es X.env := by rfl) (hpl : (backTo pos (starEach es X.env)).any (·.1) = false := by rfl) :
    SE G X Wx (.Call (.Name x p) (e :: es) [] pos) (eCall g fs) := by
  obtain ⟨r, h1, h2⟩ := ho
  exact PE.imp (pe_callBfun h1 hg hm ha hdb he hpl) fun σ H Q hh => arg1 hh fun ρ w v a g1 _ r1 p => by
    obtain ⟨xs, z, c1, e, wn⟩ := p.onL
    exact h2 w v xs z Q g1 (r1.now g1 c1) e wn
def gcdD (as : List D) : Option D := match as with
  | [.int a, .int b] => some (.int ((Nat.gcd a.natAbs b.natAbs : Nat) : Int))
  | _ => none
theorem cs_gcd : CallS G X (.builtin "math.gcd") gcdD := ⟨_, cr_gcd, fun w vs ds z Q gd rs e wn => by
  unfold gcdD at e
  split at e
  · rename_i i j
    cases e
    obtain ⟨v, r', rfl, r1, v2, r2', rfl, r2, rfl⟩ := rs
    obtain rfl : v = V.int i := r1
    obtain rfl : v2 = V.int j := r2
    exact ⟨i, j, rfl, wn.here (v := V.int _) gd rfl⟩
  · cases e⟩
/-! ### truth of a value -/
def truD : D → Option Bool
  | .non => some false
  | .bl b => some b
  | .int i => some (i != 0)
  | .str y => if y.length ≤ sizeLine then some ((y.length : Int) != 0) else none
  | .lst xs => some (!xs.isEmpty)
  | .tup xs => some (!xs.isEmpty)
  | _ => none
def tTru1 (f : Sem Vl) : Sem Bool := fun ρ W => (f ρ W).bind fun d W1 => ofO ((cont W1 d).bind truD) W1
theorem reps_isEmpty {ds : List D} {vs : List V} (r : Reps G w ds vs) : vs.isEmpty = ds.isEmpty := by
  cases ds with
  | nil => rw [show vs = _ from r]; rfl
  | cons d ds => obtain ⟨v, r', rfl, _⟩ := r; rfl
theorem tru_rep {K : PySem.W.Frag} {d : D} {v : V} {b : Bool} (gd : Good G w) (r : RepC G w d v) (e : truD d = some b) : TruV K v w.H b := by
  cases d <;> first | (cases e; done) | skip
  · cases e; rw [show v = _ from r]; rfl
  · cases e; rw [show v = _ from r]; rfl
  · cases e; rw [show v = _ from r]; rfl
  · rename_i y
    have e' : (if y.length ≤ sizeLine then some ((y.length : Int) != 0) else none) = some b := e
    split at e'
    · rename_i h
      cases e'; rw [show v = _ from r]; exact ⟨h, rfl⟩
    · cases e'
  · cases e
    obtain ⟨a, vs, rfl, h, q⟩ := r
    exact .inl ⟨vs, .of h, by rw [reps_isEmpty q]⟩
  · cases e
    obtain ⟨a, vs, rfl, h, q⟩ := r
    exact .inr (.inl ⟨vs, .of (gd.shN h rfl), by rw [reps_isEmpty q]⟩)
theorem st_tru {e : Expr} {f : Sem Vl} (h : SE G X Wx e f) (he : ∀ whole, isTrue e X.env whole = (do let v ← whole; standAt e.pos; holding [v] (truthy v)) := by intro _; rfl) : ST G X Wx e (tTru1 f) :=
  PT.imp (pt_truth h he) fun σ H Q hh => un1 hh fun ρ w v a g1 _ r1 p => by
    obtain ⟨b, e1, p1⟩ := p.ofO
    obtain ⟨x, e2, e3⟩ := Option.bind_eq_some_iff.mp e1
    exact ⟨b, tru_rep g1 (RepV.now g1 r1 e2) e3, p1.ret (b := b) g1 rfl⟩
/-! ### a def as a value -/
theorem se_fn {x : Str} {j : Nat} {pos : Pos} (hg : Gl X x) (hm : X.mg x = some (.ref (G.fa j))) (hd : (x == ("__debug__" : Str)) = false := by decide) : SE G X Wx (.Name x pos) (eC (.fn j)) :=
  se_glob hg hm (v := .ref (G.fa j)) rfl (fun _ => rfl) hd
theorem se_gint {x : Str} {i : Int} {t : Tok} {pos : Pos} (hg : Gl X x) (hm : X.mg x = some (.int i t)) (hd : (x == ("__debug__" : Str)) = false := by decide) : SE G X Wx (.Name x pos) (eC (.int i)) :=
  se_glob hg hm (v := .int i) ⟨t, rfl⟩ (fun _ => rfl) hd
theorem se_gstr {x : Str} {i : Str} {t : Tok} {pos : Pos} (hg : Gl X x) (hm : X.mg x = some (.str i t)) (hd : (x == ("__debug__" : Str)) = false := by decide) : SE G X Wx (.Name x pos) (eC (.str i)) :=
  se_glob hg hm (v := .str i) ⟨t, rfl⟩ (fun _ => rfl) hd
/-! ### methods -/
def eMeth (chk : Vl → List O → Bool) (m : Vl → List Vl → List O → Res Vl) (fo : Sem Vl) (fa : Sem (List Vl)) : Sem Vl := fun ρ W => (fo ρ W).bind fun o W1 => if chk o W1 then (fa ρ W1).bind fun as W2 => m o as W2 else .bad
def MthS (G : Gm) (X : Cx) (id : String) (m : Vl → List Vl → List O → Res Vl) : Prop := ∃ r, MtR X id r ∧ ∀ Wx σ w o as ov vs Q, Good G w → RepV G w o ov → RepVs G w as vs → Post G (RepV G) Wx σ w (m o as w.W) Q → r ov vs w.H Q
def ChkS (G : Gm) (K : PySem.W.Frag) (T : String) (chk : Vl → List O → Bool) : Prop := ∀ w o ov, Good G w → RepV G w o ov → chk o w.W = true → tyV K T ov w.H
theorem se_meth {o : Expr} {name : Str} {e : Expr} {es : List Expr} {fo : Sem Vl} {fa : Sem (List Vl)} {T id : String} {chk : Vl → List O → Bool} {m : Vl → List Vl → List O → Res Vl} {apos cpos : Pos} (pa : PlainAttrs T) (slot : Slot T name id) (hty : typeOf (.builtin id) = pure (.type "method_descriptor"))
    (hm : MthS G X id m) (hc : ChkS G X.K T chk) (ho : SE G X Wx o fo) (ha : SA G X Wx (e :: es) fa) (hbase : attributeBase o name X.env (eval o X.env) = eval o X.env := by rfl)
    (hfew : ((backTo cpos (starEach (e :: es) X.env)).all (fun x => !x.1) && (backToKw cpos (keywordEach [] X.env)).all (fun x => x.1.isSome)
      && decide ((e :: es).length + ([] : List Keyword).length + (if ([] : List Keyword).isEmpty then 0 else 1) < 30)) = true := by rfl)
    (hline : (apos.endLine == cpos.line) = true := by rfl) (hs : starEach (e :: es) X.env = (false, eval e X.env) :: starEach es X.env := by rfl) (hplain : (backTo cpos (starEach es X.env)).any (·.1) = false := by rfl) :
    SE G X Wx (.Call (.Attribute o name apos) (e :: es) [] cpos) (eMeth chk m fo fa) := by
  obtain ⟨r, h1, h2⟩ := hm
  refine PE.imp (pe_bm pa slot hty h1 ho ha hbase hfew hline hs hplain) fun σ H Q hh => ?_
  obtain ⟨w, ρ, rfl, gd, er, p⟩ := hh
  refine ⟨w, ρ, rfl, gd, er, (Post.bind (R := RepV G) p).mono fun ov H1 ⟨w1, o', e1, l1, g1, r1, p1⟩ => ?_⟩
  subst e1
  split at p1
  · rename_i hk
    refine ⟨hc w1 o' ov g1 r1 hk, w1, ρ, rfl, g1, er.mono l1, (Post.bind (R := RepVs G) p1).mono fun vs H2 ⟨w2, as, e2, l2, g2, r2, p2⟩ => ?_⟩
    subst e2
    exact h2 Wx σ w2 o' as ov vs Q g2 (RepV.mono l2 _ _ r1) r2 p2
  · exact p1.elim
theorem se_meth0 {o : Expr} {name : Str} {fo : Sem Vl} {T id : String} {chk : Vl → List O → Bool} {m : Vl → List Vl → List O → Res Vl} {apos cpos : Pos} (pa : PlainAttrs T) (slot : Slot T name id) (hty : typeOf (.builtin id) = pure (.type "method_descriptor"))
    (hm : MthS G X id m) (hc : ChkS G X.K T chk) (ho : SE G X Wx o fo) (hbase : attributeBase o name X.env (eval o X.env) = eval o X.env := by rfl) (hline : (apos.endLine == cpos.line) = true := by rfl) :
    SE G X Wx (.Call (.Attribute o name apos) [] [] cpos) (eMeth chk m fo aNil) := by
  obtain ⟨r, h1, h2⟩ := hm
  refine PE.imp (pe_bm0 pa slot hty h1 ho hbase hline) fun σ H Q hh => ?_
  obtain ⟨w, ρ, rfl, gd, er, p⟩ := hh
  refine ⟨w, ρ, rfl, gd, er, (Post.bind (R := RepV G) p).mono fun ov H1 ⟨w1, o', e1, l1, g1, r1, p1⟩ => ?_⟩
  subst e1
  split at p1
  · rename_i hk
    exact ⟨hc w1 o' ov g1 r1 hk, h2 Wx σ w1 o' [] ov [] Q g1 r1 rfl p1⟩
  · exact p1.elim
/-! lists -/
def isL (v : Vl) (W : List O) : Bool := match cont W v with
  | some (.lst _) => true
  | _ => false
theorem chk_list {K : PySem.W.Frag} : ChkS G K "list" isL := fun w o ov g r h => by
  unfold isL at h
  split at h
  · rename_i xs e
    obtain ⟨a, vs, rfl, h1, _⟩ := RepV.now g r e
    exact .inl ⟨rfl, vs, .of h1⟩
  · cases h
/-- a mutable list gets new items, the method gives d -/
def putL (j : Nat) (ds : List D) (d : D) (W : List O) : Res Vl := .ok (.d d) (W.set j (.lst ds))
theorem put_list {j : Nat} {ds ds' : List D} {vs' : List V} {Q : VK} {d : D} {v : V} (g : Good G w) (e : w.W[j]? = some (.lst ds)) (r : Reps G w ds' vs') (rd : Rep G w d v) (p : Post G (RepV G) Wx σ w (putL j ds' d w.W) Q) : Q v (upd w.H (w.μ j) (.lst vs')) := by
  have hj := (List.getElem?_eq_some_iff.mp e).1
  obtain ⟨hs, vs, h1, h2⟩ := g.ob j _ e rfl
  have l := le_put (w := w) (o := .lst vs') (x := .lst ds') hj (fun _ z => by cases z)
  exact p (w.put j (.lst vs') (.lst ds')) v l (good_put g e rfl h1 rfl (fun _ z => by cases z) ⟨_, upd_same, Reps.mono l _ _ r⟩) rfl (Rep.mono l _ _ rd)
def mAppend (o : Vl) (as : List Vl) (W : List O) : Res Vl := match o, as with
  | .o j, [.d x] => match W[j]? with
    | some (.lst ds) => if ds.length < sizeLine then putL j (ds ++ [x]) .non W else .bad
    | _ => .bad
  | _, _ => .bad
theorem ms_append : MthS G X "list.append" mAppend := ⟨_, mt_append, fun Wx σ w o as ov vs Q g r rs p => by
  unfold mAppend at p
  split at p
  · rename_i j x
    split at p
    · rename_i ds e
      split at p
      · rename_i hz
        obtain ⟨v, r', rfl, rv, rfl⟩ := rs
        obtain ⟨_, vs, h1, h2⟩ := g.ob j _ e rfl
        exact ⟨w.μ j, vs, v, r.2, rfl, h1, by rw [h2.length]; exact hz, put_list g e (h2.append (Reps.one rv)) (d := .non) (v := V.non) rfl p⟩
      · exact p.elim
    · exact p.elim
  · exact p.elim⟩
def mInsert (o : Vl) (as : List Vl) (W : List O) : Res Vl := match o, as with
  | .o j, [.d (.int i), .d x] => match W[j]? with
    | some (.lst ds) => if ds.length < sizeLine ∧ 0 ≤ i ∧ i < 2 ^ 63 then putL j (ds.take i.toNat ++ [x] ++ ds.drop i.toNat) .non W else .bad
    | _ => .bad
  | _, _ => .bad
theorem ms_insert : MthS G X "list.insert" mInsert := ⟨_, mt_insert, fun Wx σ w o as ov vs Q g r rs p => by
  unfold mInsert at p
  split at p
  · rename_i j i x
    split at p
    · rename_i ds e
      split at p
      · rename_i hz
        obtain ⟨v, r', rfl, rv, v2, r2', rfl, rv2, rfl⟩ := rs
        obtain rfl : v = V.int i := rv
        obtain ⟨_, vs, h1, h2⟩ := g.ob j _ e rfl
        exact ⟨w.μ j, vs, i, v2, r.2, rfl, h1, by rw [h2.length]; exact hz.1, hz.2.1, hz.2.2, put_list g e (((h2.take _).append (Reps.one rv2)).append (h2.drop _)) (d := .non) (v := V.non) rfl p⟩
      · exact p.elim
    · exact p.elim
  · exact p.elim⟩
def mPop (o : Vl) (as : List Vl) (W : List O) : Res Vl := match o, as with
  | .o j, [.d (.int 0)] => match W[j]? with
    | some (.lst (x :: ds)) => putL j ds x W
    | _ => .bad
  | .o j, [] => match W[j]? with
    | some (.lst ds) => match ds.getLast? with
      | some x => putL j ds.dropLast x W
      | none => .bad
    | _ => .bad
  | _, _ => .bad
theorem Reps.dropLast {ds : List D} {vs : List V} (h : Reps G w ds vs) : Reps G w ds.dropLast vs.dropLast := by
  rw [List.dropLast_eq_take, List.dropLast_eq_take, h.length]
  exact h.take _
theorem ms_pop : MthS G X "list.pop" mPop := ⟨_, MtR.or mt_pop mt_popAt, fun Wx σ w o as ov vs Q g r rs p => by
  unfold mPop at p
  split at p
  · rename_i j
    split at p
    · rename_i x ds e
      obtain ⟨v, r', rfl, rv, rfl⟩ := rs
      obtain rfl : v = V.int 0 := rv
      obtain ⟨_, vs, h1, h2⟩ := g.ob j _ e rfl
      obtain ⟨y, ys, rfl, q1, q2⟩ := h2
      refine .inr ⟨w.μ j, _, 0, 0, y, r.2, rfl, h1, by decide, by decide, ?_, rfl, ?_⟩
      · unfold seqIndex?; simp
      · exact put_list g e q2 q1 p
    · exact p.elim
  · rename_i j
    split at p
    · rename_i ds e
      split at p
      · rename_i x ex
        obtain ⟨_, us, h1, h2⟩ := g.ob j _ e rfl
        obtain ⟨y, e1, e2⟩ := h2.get (i := ds.length - 1) (by rw [← List.getLast?_eq_getElem?]; exact ex)
        have ln := h2.length
        exact .inl ⟨w.μ j, us, y, r.2, rs, h1, by rw [ln]; exact e1, put_list g e h2.dropLast e2 p⟩
      · exact p.elim
    · exact p.elim
  · exact p.elim⟩
end
end VL
set_option Elab.async false
set_option linter.all false
set_option maxRecDepth 100000
set_option maxHeartbeats 4000000
namespace VL
open PySem PySem.Spec PyProof.Rows L2
/-! ### the law's own def, from the top -/
abbrev lawX (P : Program) (w : World) (K : PySem.W.Frag) (mg : Str → Option Value) (base : Heap) (N : List Str) (st : Stmt) (fa c : Addr) (s : Shared) (H : Hp) : Cx :=
  cxOf (L2.CX P w) P w K mg base N "law" (defScope st) fa (.ref c) callerA [] s H fun _ _ _ => False
structure LawV (l : PySem.W.OpenLaw) (w : World) (K : PySem.W.Frag) (mg : Str → Option Value) (fa : Addr) (n : Nat) (st : Stmt) (N : List Str) (k : Nat) (c P : Addr) (q : Str) (G : Gm) (body : SemS) : Prop where
  lk : ∃ (oc kV doc pm ct : Value) (an od : Option Addr) (osl : Array (Option Value)), K.lookup fa = some ⟨oc, od, .func (PySem.W.fnOf "law" "law" (defArgs st) (defBody st) (defScope st) .none kV doc pm an (.ref c) ct), osl⟩
  hcd : PySem.W.codeIn K (.ref c) "law" = true
  S : FnScope N ["script"] (defScope st)
  hb : ∀ (kV doc pm ct : Value) (an : Option Addr) (s : Shared) (u : Value), BindsTo s (PySem.W.fnOf "law" "law" (defArgs st) (defBody st) (defScope st) .none kV doc pm an (.ref c) ct) ⟨[u], []⟩ [("script", u)]
  ht : PySem.W.tabIn K "law" = some (c, P)
  nP : K.lookup P = none
  GK : G.K = K
  GT : G.T = [(P, q)]
  hr : Room (k + 1) callerA
  run : ∀ (base : Heap) (s : Shared) (H : Hp), K.In base → base.Ns mainGlobals mg → LamX.TabB base mg c P → VC G (lawX l.prog w K mg base N st fa c s H) k (WEx fun _ _ _ => False) → (lawX l.prog w K mg base N st fa c s H).A.guards = some [] →
    SSs G (lawX l.prog w K mg base N st fa c s H) (WEx fun _ _ _ => False) (defBody st) body
  res : ∀ ns : List Int, ns.length ≤ n → (∀ z ∈ ns, Builtin.Int.intBits z ≤ 1048576) → ∃ W', runF N.length body [.d (.scr ns)] [] = .ok (.d (.bl true)) W'
def lstO : Option HO → Option HO
  | some (.lst xs) => some (.lst xs)
  | some (.frz o (.lst xs)) => some (.frz o (.lst xs))
  | _ => none
def hs0 (H : Hp) (a : Addr) : Hp := fun b => if b = a then lstO (H a) else none
theorem walk_V {l : PySem.W.OpenLaw} {n : Nat} {q : Program} {loose : List Str} {XP : (Str → Option Value) → Heap → Prop} {YP : World → Heap → Prop} {d : DefRec} {K : Params → PySem.W.Frag}
    (hn : l.most = some n) (hn2 : n ≤ sizeLine) (hdf : d.params.defaults = []) (hnm : d.name = "law") (hrec : (recsOf q).find? (fun e => e.name == ("law" : Str)) = some d) (hY : ∀ (w : World) (h : Heap), YP w h → (K w.params).In h)
    (F : ∀ (w : World) (mg : Str → Option Value) (fa : Addr) (h : Heap), (K w.params).In h → h.Ns mainGlobals mg → mg "law" = some (.ref fa) → ∃ st N k c P q0 G body, LawV l w (K w.params) mg fa n st N k c P q0 G body) :
    PySem.W.WalkO q loose XP YP l.row.toRowW d [] (fun f vs => PySem.call f vs) := by
  refine Att.attach_callB hn hdf fun w s₀ s₁ mg mb fa o pm cd doc a vs ns Gr Y ho hd hcd hmg hobj hints hlen hbits hg => ?_
  have KX := hY w _ Y
  rw [hnm] at hmg
  obtain ⟨st, N, k, c, P, q0, G, body, L⟩ := F w mg fa _ KX Gr.T.g hmg
  obtain ⟨oc, kV, doc', pm', ct, an, od, osl, lk⟩ := L.lk
  obtain ⟨hC, hP⟩ := PySem.W.tab_of Gr.T KX hrec L.ht
  refine law_callG (CX := L2.CX l.prog w) (cs := [(c, P)]) KX Gr.T.g Gr.T.b Gr.T.builtins Gr.T.nolimit hg (fun p hp => by obtain rfl := List.mem_singleton.mp hp; exact hP) (fun p hp => by obtain rfl := List.mem_singleton.mp hp; exact L.nP)
    (fun p hp => by obtain rfl := List.mem_singleton.mp hp; exact hC) Gr.T.bmain hobj hints (Nat.le_trans hlen hn2) (fun base H kB nB tB en hTb hSq => ?_) fun H e s' h => ?_
  · refine LamX.run_ofS (us := [.ref a]) (vs := [.ref a]) lk L.hcd L.S L.hr en (L.hb kV doc' pm' ct an s₁ (.ref a)) (.cons rfl .nil) rfl fun hr' => ?_
    have hH : H P = some (.tbl #[]) := hTb (c, P) (List.mem_singleton.mpr rfl)
    have vc : VC G (lawX l.prog w (K w.params) mg base N st fa c s₁ H) k (WEx fun _ _ _ => False) := ⟨L.GK.symm, rfl, L.S.nd, takes_of rfl rfl rfl rfl, passes_of rfl, hr'⟩
    have nl : ∀ o, hs0 H a a = some o → H a = some o ∧ ∀ ps, o ≠ .tbl ps := fun o e => by
      unfold hs0 at e
      rw [if_pos rfl] at e
      unfold lstO at e
      split at e
      · rename_i xs ex; cases e; exact ⟨ex, fun _ z => by cases z⟩
      · rename_i ob xs ex; cases e; exact ⟨ex, fun _ z => by cases z⟩
      · cases e
    have g0 : Good G ⟨H, hs0 H a, fun _ => 0, []⟩ := by
      refine ⟨fun b o e => ?_, fun i x e => by simp at e, fun i j y z e => by simp at e, fun p hp => ?_, fun b ps e => ?_, fun i hi => absurd hi (Nat.not_lt_zero _)⟩
      · by_cases hb : b = a
        · subst hb; exact .inl (nl o e).1
        · have e2 : hs0 H a b = _ := e; rw [show hs0 H a b = none from if_neg hb] at e2; cases e2
      · rw [L.GT] at hp
        obtain rfl := List.mem_singleton.mp hp
        exact LamX.TabS.nil hH
      · by_cases hb : b = a
        · subst hb; exact (nl _ e).2 ps rfl
        · have e2 : hs0 H a b = _ := e; rw [show hs0 H a b = none from if_neg hb] at e2; cases e2
    have rp : RepV G ⟨H, hs0 H a, fun _ => 0, []⟩ (.d (.scr ns)) (.ref a) := by
      refine ⟨a, rfl, ?_⟩
      rw [L.GK]
      rcases hSq with h | h
      · left
        rcases h with h | ⟨ob, h⟩
        · exact .inl (by show hs0 H a a = _; unfold hs0; rw [if_pos rfl, h]; rfl)
        · exact .inr ⟨ob, by show hs0 H a a = _; unfold hs0; rw [if_pos rfl, h]; rfl⟩
      · exact .inr h
    obtain ⟨W', hW⟩ := L.res ns hlen hbits
    have fin : tS G (WEx fun _ _ _ => False) body { nx := fun _ H' => (fun (v : V) (_ : Hp) => v = .bl true) .non H', rt := fun v _ => v = .bl true } (L2.start N [V.ref a]) H := by
      refine start_rd (Q := fun v _ => v = .bl true) (w0 := ⟨H, hs0 H a, fun _ => 0, []⟩) (ds := [.d (.scr ns)]) g0 ⟨_, [], rfl, rp, rfl⟩ ?_
      show Post G (RepV G) _ [] _ (runF N.length body [.d (.scr ns)] []) _
      rw [hW]
      exact fun w' v l g e r => r
    exact ⟨tS G (WEx fun _ _ _ => False) body, L.run base s₁ H kB nB (tB (c, P) (List.mem_singleton.mpr rfl)) vc rfl, fin⟩
  · obtain ⟨_, _, _, _, _, _, _, _, _, _, _, _, z⟩ := h
    exact z
end VL
set_option Elab.async false
set_option linter.all false
set_option maxRecDepth 100000
set_option maxHeartbeats 4000000
namespace VL
open PySem PySem.Spec PyProof.Rows L2
section
variable {G : Gm} {X : Cx} {k : Nat} {Wx : WX} {σ : L2.St} {w w' : Wd} {ρ : Rho} {Dn : Ends}
/-! ### a < b < c as a test -/
theorem st_chain {a b c : Expr} {f g fc : Sem Vl} {pos : Pos} {op op' : CmpOp} {g1 g2 : D → D → Option D} (ho : OpS G X (compareOp op) g1) (ho' : OpS G X (compareOp op') g2) (ha : SE G X Wx a f) (hb : SE G X Wx b g) (hc : SE G X Wx c fc)
    (hl : lastMarks [op, op'] [b, c] = false := by with_unfolding_all rfl) :
    ST G X Wx (.Compare a [op, op'] [b, c] pos) (tOf (eChain g1 g2 f g fc)) := by
  obtain ⟨r, h1, h2⟩ := ho
  obtain ⟨r', h1', h2'⟩ := ho'
  refine PT.imp (pt_chain h1 h1' ha hb hc hl) fun σ H Q hh => ?_
  have hh' : tE G Wx (eChain g1 g2 f g fc) σ H (fun v H1 => ∃ k, v = .bl k ∧ Q k H1) := un1 hh fun ρ w v a g1 _ r1 p => by
    split at p
    · rename_i b
      exact ⟨b, r1, p.ret (b := b) g1 rfl⟩
    · exact p.elim
  show tChain r r' _ _ _ σ H _
  refine bin2 hh' fun ρ w v u a b gd er ra rb p => ?_
  obtain ⟨x, y, z, c1, c2, e, wn⟩ := ((Post.bind (R := RepV G) p)).on2
  refine h2 w v u x y z _ gd (ra.now gd c1) (rb.now gd c2) e fun w' v' l g' eW r' => ?_
  obtain ⟨w3, d, e3, l3, g3, rr, p3⟩ := wn w' v' l g' eW r'
  rw [← e3]
  split at p3
  · refine ⟨true, rr, ?_⟩
    rw [if_pos rfl]
    refine ⟨w3, ρ, rfl, g3, er.mono l3, (Post.bind (R := RepV G) p3).mono fun u4 H4 ⟨w4, c, e4, l4, g4, r4, p4⟩ => ?_⟩
    subst e4
    obtain ⟨x2, y2, z2, c21, c22, e2, wn2⟩ := p4.on2
    exact h2' w4 u u4 x2 y2 z2 _ g4 (RepV.now g4 (RepV.mono l4 _ _ (RepV.mono l3 _ _ rb)) c21) (r4.now g4 c22) e2 wn2
  · refine ⟨false, rr, ?_⟩
    rw [if_neg Bool.false_ne_true]
    exact p3.ret (b := V.bl false) g3 rfl
  · exact p3.elim
/-! ### x = [..] on one line -/
theorem ss_setLc {i : Nat} {y : Str} {py : Pos} {elt tg iter : Expr} {ifs : List Expr} {scope : Scope} {own : List (Str × Nat)} {pos spos : Pos} {p : TgP} {fi : Sem (List D)} {t : Sem Bool} {f : Sem Vl} (vc : VC G X k Wx) (hi : SI G X Wx tg iter fi) (ok : BlkOk X.N X.env.scope scope own)
    (hg : ∀ (s : Shared) (H : Hp) (C : Addr) (cl : List (Str × Addr)) (fp : List Addr), SG (X.blk s H scope (compEnvC scope cl C X.env) fp) tg p)
    (ht : ∀ (s : Shared) (H : Hp) (C : Addr) (cl : List (Str × Addr)) (fp : List Addr), STs G (X.blk s H scope (compEnvC scope cl C X.env) fp) (fun _ _ _ _ => False) ifs t)
    (he : ∀ (s : Shared) (H : Hp) (C : Addr) (cl : List (Str × Addr)) (fp : List Addr), SE G (X.blk s H scope (compEnvC scope cl C X.env) fp) (fun _ _ _ _ => False) elt f) (hk : X.env.scope.kind = .function := by rfl) (hl : (py.line == pos.line) = true := by rfl)
    (hsc : (scope.names.any fun (n, k) => n == y && (k == .local || k == .cell)) = false := by decide +kernel) (hy : X.N[i]? = some y := by rfl) (hyl : X.env.scope.names.lookup y = some .local := by rfl)
    (hsub : ∀ i ∈ slotsP p, i ∈ own.map (·.2) := by decide) (hs : ∀ x, foldedSetIterable iter X.env x = pure x := by intro _; rfl) :
    SS G X Wx (.Assign [.Name y py] (.ListComp elt [⟨tg, iter, ifs, 0⟩] scope pos) spos) (sSet i (eLc (own.map (·.2)) p fi t f)) :=
  PS.imp (ps_setLc (g := gRd X.K p) vc.calm vc.nd hy hyl (sw_true hk hyl hl hsc) hi ok hg ht he hs) fun D σ H hh => by
    refine lc_rd (K := X.K) hsub (Q := fun x H1 => gName i x σ H1 D.nx) ?_
    exact lift1 (R := RepV G) hh fun ρ w v a g er r p => p.nx g (er.set r)
/-! ### a, b, c = x, y, z -/
theorem ss_par3 {i j l : Nat} {x y z : Str} {a b c : Expr} {f : Sem (List Vl)} {px py pz pt pos : Pos} {kt k2 pt2} (vc : VC G X k Wx) (h : SA G X Wx [a, b, c] f) (hi : X.N[i]? = some x := by rfl) (hj : X.N[j]? = some y := by rfl) (hl : X.N[l]? = some z := by rfl)
    (hij : i ≠ j := by decide) (hil : i ≠ l := by decide) (hjl : j ≠ l := by decide) (hx : X.env.scope.names.lookup x = some .local := by rfl) (hy : X.env.scope.names.lookup y = some .local := by rfl) (hz : X.env.scope.names.lookup z = some .local := by rfl)
    (hw : swappedStores [.Tuple [.Name x px, .Name y py, .Name z pz] kt pt] (.Tuple [a, b, c] k2 pt2) X.env = pure (some [x, y, z]) := by rfl)
    (hs : swapsWithSole [.Tuple [.Name x px, .Name y py, .Name z pz] kt pt] (.Tuple [a, b, c] k2 pt2) pos.line X.env = pure false := by rfl) :
    SS G X Wx (.Assign [.Tuple [.Name x px, .Name y py, .Name z pz] kt pt] (.Tuple [a, b, c] k2 pt2) pos) (sPar3 i j l f) :=
  PS.imp (ps_par3 vc.calm vc.nd hi hj hl hij hil hjl hx hy hz h hw hs) fun D σ H hh => lift1 (R := RepVs G) hh fun ρ w v a g er r p => by
    split at p
    · obtain ⟨v1, r1, rfl, q1, v2, r2, rfl, q2, v3, r3, rfl, q3, rfl⟩ := r
      exact ⟨v1, v2, v3, rfl, p.nx g (((er.set q1).set q2).set q3)⟩
    · exact p.elim
/-! ### o[i] op= e on a list or a dict -/
def rGetS (X : Cx) : V → V → Hp → VK → Prop := fun x y H Q => (rIxL X.K x y H Q ∨ rIxT X.K x y H Q) ∨ (rIxS x y H Q ∨ rIxD x y H Q)
end
end VL
set_option Elab.async false
set_option linter.all false
set_option maxRecDepth 100000
set_option maxHeartbeats 4000000
namespace VL
open PySem PySem.Spec PyProof.Rows L2
section
variable {G : Gm} {X : Cx} {k : Nat} {Wx : WX} {σ : L2.St} {w w' : Wd} {ρ : Rho} {Dn : Ends}
theorem se_gintE {x : Str} {i : Int} {pos : Pos} (hg : Gl X x) (hm : ∃ t, X.mg x = some (.int i t)) (hd : (x == ("__debug__" : Str)) = false := by decide) : SE G X Wx (.Name x pos) (eC (.int i)) := by
  obtain ⟨t, h⟩ := hm
  exact se_gint hg h hd
theorem se_gstrE {x : Str} {i : Str} {pos : Pos} (hg : Gl X x) (hm : ∃ t, X.mg x = some (.str i t)) (hd : (x == ("__debug__" : Str)) = false := by decide) : SE G X Wx (.Name x pos) (eC (.str i)) := by
  obtain ⟨t, h⟩ := hm
  exact se_gstr hg h hd
/-- _law_refused(lambda: e) where the def that takes it is f -/
theorem se_refW {x a : Str} {g c P : Addr} {st : Stmt} {fd : FuncData} {Ng : List Str} {hs : List (Nat × Str)} {f : Sem Vl} {params : Arguments} {body : Expr} {scope : Scope} {p lpos pos : Pos} (vc : VC G X (k + 2) Wx) (F : Fun X.K x x st g fd) (hg : Gl X x) (hm : X.mg x = some (.ref g))
    (hb : L2.Binds X.K fd [a] []) (Sg : FnScope Ng [a] (defScope st)) (hNg : Ng[0]? = some a) (hva : Vis (defScope st) a)
    (hG : ∀ cdv, LamX.GivesTo X Ng x (defScope st) g cdv (defBody st) a (X.env.qual ++ "<lambda>") (TTref (hsA G hs)))
    (TB : LamX.TabB X.base X.mg c P) (hcode : X.env.code = .ref c) (hT : G.T = [(P, X.env.qual ++ "<lambda>")]) (hinj : ∀ q ∈ hs, ∀ c, G.ca c = G.ca q.1 → c = q.1) (hfd : ∀ c s, hs.lookup c = some s → (G.fd c)[0]? = some ("value" : Str))
    (hbody : ∀ (A : Around) (outer : List Env) (s : Shared) (H : Hp) (E : XK) (f0 c' : Addr), VC G (LamX.lamCx X A outer s H E scope f0 c') k (WEx E) → SE G (LamX.lamCx X A outer s H E scope f0 c') (WEx E) body f)
    (L : LamX.LamS X.env.scope scope := by exact LamX.lamS_by (by kernel_rfl)) (hdef : defaultsOf params X.env = ([], []) := by rfl)
    (hbind : ∀ (q : Str) (cl : List (Str × Addr)) (pm cv ctv : Value), bindArgs (PySem.W.kla_fn "<lambda>" q params body scope cl pm cv ctv) ⟨[], []⟩ = pure [] := by intros; rfl)
    (hdb : (x == ("__debug__" : Str)) = false := by decide) (hd : (a == ("__debug__" : Str)) = false := by decide) (hcd : (a == ("__classdict__" : Str)) = false := by decide) :
    SE G X Wx (.Call (.Name x p) [.Lambda params body scope lpos] [] pos) (eRef hs f) := by
  obtain ⟨oc, od, kV, doc, pm, an, cdv, ct, osl, rfl, lk, hcd2⟩ := F.ex
  exact se_ref vc hg hm F.kp lk hcd2 hb Sg hNg hva (hG cdv) TB hcode (by rw [hT]; exact List.mem_singleton.mpr rfl) (fun p hp _ => by rw [hT] at hp; rw [List.mem_singleton.mp hp]) L hdef hbind hinj hfd hbody hdb hd hcd
end
theorem fn_bad {P : Program} {w : World} {K : PySem.W.Frag} {mg : Str → Option Value} {base : Heap} {CX : CXT} {k : Nat} {f : Addr} {fd : FuncData} {ps : List Str} {G : Gm} {n : Nat} {g : List Vl → List O → Res Vl} (hg : ∀ ds W, g ds W = .bad) : FnOk P w K mg base CX k f fd ps (spI G n g) :=
  ⟨fun vs H Q E ⟨w, ds, _, _, _, _, p⟩ => by rw [hg] at p; exact p.elim, fun A outer s H args us vs Q E _ _ _ _ ⟨w, ds, _, _, _, _, p⟩ => by rw [hg] at p; exact p.elim⟩
end VL
set_option Elab.async false
set_option linter.all false
set_option maxRecDepth 100000
set_option maxHeartbeats 4000000
namespace VL
open PySem PySem.Spec PyProof.Rows L2
/-! ### runs, step by step -/
section
variable (ρ : Rho) (W : List O)
@[simp] theorem sNx_s : sNx ρ W = .ok .nx ρ W := rfl
@[simp] theorem sBk_s : sBk ρ W = .ok .bk ρ W := rfl
@[simp] theorem sCt_s : sCt ρ W = .ok .ct ρ W := rfl
@[simp] theorem sSeq_s (f g : SemS) : sSeq f g ρ W = (f ρ W).thn g := rfl
@[simp] theorem sIf_s (t : Sem Bool) (f g : SemS) : sIf t f g ρ W = liftS (t ρ W) ρ fun b W1 => if b then f ρ W1 else g ρ W1 := rfl
@[simp] theorem sSet_s (i : Nat) (f : Sem Vl) : sSet i f ρ W = liftS (f ρ W) ρ fun d W1 => .ok .nx (ρ.set i (some d)) W1 := rfl
@[simp] theorem sRet_s (f : Sem Vl) : sRet f ρ W = liftS (f ρ W) ρ fun d W1 => .ok (.rt d) ρ W1 := rfl
@[simp] theorem sExpr_s (f : Sem Vl) : sExpr f ρ W = liftS (f ρ W) ρ fun _ W1 => .ok .nx ρ W1 := rfl
@[simp] theorem sTup_s (p : TgP) (f : Sem Vl) : sTup p f ρ W = liftS (f ρ W) ρ fun d W1 => match d with
  | .d x => match bindP p x ρ with
    | some ρ' => .ok .nx ρ' W1
    | none => .bad
  | .o _ => .bad := rfl
@[simp] theorem sPar_s (i j : Nat) (f : Sem (List Vl)) : sPar i j f ρ W = liftS (f ρ W) ρ fun ds W1 => match ds with
  | [a, b] => .ok .nx ((ρ.set i (some a)).set j (some b)) W1
  | _ => .bad := rfl
@[simp] theorem sRaise_s (c : Nat) (fs : Sem (List Vl)) : sRaise c fs ρ W = liftS (fs ρ W) ρ fun as W1 => match pureL as with
  | some [y] => .exc c [y] ρ W1
  | _ => .bad := rfl
@[simp] theorem sFor_s (p : TgP) (fi : Sem (List D)) (body : SemS) : sFor p fi body ρ W = liftS (fi ρ W) ρ fun ds W1 => forL p body ds ρ W1 := rfl
@[simp] theorem sWhile_s (n : Nat) (t : Sem Bool) (body : SemS) : sWhile n t body ρ W = whileF t body n ρ W := rfl
@[simp] theorem sSub_s (fe fo fi : Sem Vl) : sSub fe fo fi ρ W = liftS (fe ρ W) ρ fun x W1 => liftS (fo ρ W1) ρ fun o W2 => liftS (fi ρ W2) ρ fun i W3 => match setW o i x W3 with
  | some W4 => .ok .nx ρ W4
  | none => .bad := rfl
@[simp] theorem eC_s (d : D) : eC d ρ W = .ok (.d d) W := rfl
@[simp] theorem eBin_s (g : D → D → Option D) (fa fb : Sem Vl) : eBin g fa fb ρ W = (fa ρ W).bind fun a W1 => (fb ρ W1).bind fun b W2 => on2 g a b W2 := rfl
@[simp] theorem eUn_s (g : D → Option D) (fa : Sem Vl) : eUn g fa ρ W = (fa ρ W).bind fun a W1 => on1 g a W1 := rfl
@[simp] theorem eCall_s (g : List D → Option D) (fa : Sem (List Vl)) : eCall g fa ρ W = (fa ρ W).bind fun a W1 => onL g a W1 := rfl
@[simp] theorem eFun_s (g : List Vl → List O → Res Vl) (fs : Sem (List Vl)) : eFun g fs ρ W = (fs ρ W).bind fun as W1 => g as W1 := rfl
@[simp] theorem eDisp_s (g : List D → Option D) (fa : Sem (List Vl)) : eDisp g fa ρ W = (fa ρ W).bind fun a W1 => onP g a W1 := rfl
@[simp] theorem eLstO_s (fa : Sem (List Vl)) : eLstO fa ρ W = (fa ρ W).bind fun a W1 => mkObjL a W1 := rfl
@[simp] theorem eIf_s (t : Sem Bool) (f g : Sem Vl) : eIf t f g ρ W = (t ρ W).bind fun b W1 => if b then f ρ W1 else g ρ W1 := rfl
@[simp] theorem eAnd_s (f g : Sem Vl) : eAnd f g ρ W = (f ρ W).bind fun d W1 => match d with
  | .d (.bl true) => g ρ W1
  | .d (.bl false) => .ok (.d (.bl false)) W1
  | _ => .bad := rfl
@[simp] theorem eOr_s (f g : Sem Vl) : eOr f g ρ W = (f ρ W).bind fun d W1 => match d with
  | .d (.bl false) => g ρ W1
  | .d (.bl true) => .ok (.d (.bl true)) W1
  | _ => .bad := rfl
@[simp] theorem eChain_s (g g' : D → D → Option D) (fa fb fc : Sem Vl) : eChain g g' fa fb fc ρ W = (fa ρ W).bind fun a W1 => (fb ρ W1).bind fun b W2 => (on2 g a b W2).bind fun z W3 => match z with
  | .d (.bl true) => (fc ρ W3).bind fun c W4 => on2 g' b c W4
  | .d (.bl false) => .ok (.d (.bl false)) W3
  | _ => .bad := rfl
@[simp] theorem eSlice_s (fa : Sem Vl) (fl fh : Sem (Option Int)) : eSlice fa fl fh ρ W = (fa ρ W).bind fun a W1 => (fl ρ W1).bind fun l W2 => (fh ρ W2).bind fun h W3 => on1 (fun x => sliceS x l h) a W3 := rfl
@[simp] theorem oNone_s : oNone ρ W = .ok none W := rfl
@[simp] theorem oSome_s (f : Sem Vl) : oSome f ρ W = (f ρ W).bind fun d W1 => match d with
  | .d (.int i) => .ok (some i) W1
  | _ => .bad := rfl
@[simp] theorem eMeth_s (chk : Vl → List O → Bool) (m : Vl → List Vl → List O → Res Vl) (fo : Sem Vl) (fa : Sem (List Vl)) : eMeth chk m fo fa ρ W = (fo ρ W).bind fun o W1 => if chk o W1 then (fa ρ W1).bind fun as W2 => m o as W2 else .bad := rfl
@[simp] theorem eRef_s (hs : List (Nat × Str)) (f : Sem Vl) : eRef hs f ρ W = match f ρ W with
  | .ok _ W1 => .ok (.d (.tup [.str "", .non])) W1
  | .exc c [y] W1 => match hs.lookup c with
    | some s => .ok (.d (.tup [.str s, y])) W1
    | none => .bad
  | _ => .bad := rfl
@[simp] theorem eLc_s (own : List Nat) (p : TgP) (fi : Sem (List D)) (t : Sem Bool) (f : Sem Vl) : eLc own p fi t f ρ W = (fi ρ W).bind fun ds W1 => (noX (lcL p t f (wipeR ρ own) ds W1)).bind fun ys W2 => if ds.length ≤ sizeLine then .ok (.d (.lst ys)) W2 else .bad := rfl
@[simp] theorem eLstRg1_s (fa : Sem Vl) : eLstRg1 fa ρ W = (fa ρ W).bind fun a W1 => match a with
  | .d (.int n) => if n ≤ 16777216 ∧ -(2 ^ 62) ≤ n then .ok (.d (.lst (rngD 0 n))) W1 else .bad
  | _ => .bad := rfl
@[simp] theorem aNil_s : aNil ρ W = .ok [] W := rfl
@[simp] theorem aCons_s (f : Sem Vl) (fs : Sem (List Vl)) : aCons f fs ρ W = (f ρ W).bind fun d W1 => (fs ρ W1).bind fun ds W2 => .ok (d :: ds) W2 := rfl
@[simp] theorem tOf_s (f : Sem Vl) : tOf f ρ W = (f ρ W).bind fun d W1 => match d with
  | .d (.bl b) => .ok b W1
  | _ => .bad := rfl
@[simp] theorem tTru1_s (f : Sem Vl) : tTru1 f ρ W = (f ρ W).bind fun d W1 => ofO ((cont W1 d).bind truD) W1 := rfl
@[simp] theorem tAndD_s (f g : Sem Bool) : tAndD f g ρ W = (f ρ W).bind fun b W1 => if b then g ρ W1 else .ok false W1 := rfl
@[simp] theorem tOrD_s (f g : Sem Bool) : tOrD f g ρ W = (f ρ W).bind fun b W1 => if b then .ok true W1 else g ρ W1 := rfl
@[simp] theorem tNotD_s (f : Sem Bool) : tNotD f ρ W = (f ρ W).bind fun b W1 => .ok (!b) W1 := rfl
@[simp] theorem tTru_s : tTru ρ W = .ok true W := rfl
@[simp] theorem iSeq_s (f : Sem Vl) : iSeq f ρ W = (f ρ W).bind itemsQ := rfl
theorem iRng1_s (f : Sem (List Vl)) : iRng1 f ρ W = (f ρ W).bind rngS1 := rfl
theorem iRng2_s (f : Sem (List Vl)) : iRng2 f ρ W = (f ρ W).bind rngS2 := rfl
@[simp] theorem iEnum_s (f : Sem (List Vl)) : iEnum f ρ W = (f ρ W).bind enumS := rfl
end
section
variable (W : List O)
@[simp] theorem eVar_s (i : Nat) (ρ : Rho) (d : Vl) (h : ρ[i]? = some (some d)) : eVar i ρ W = .ok d W := by unfold eVar; rw [h]
@[simp] theorem itemsQ_l (ds : List D) : itemsQ (.d (.lst ds)) W = .ok ds W := rfl
@[simp] theorem itemsQ_t (ds : List D) : itemsQ (.d (.tup ds)) W = .ok ds W := rfl
@[simp] theorem enumS_l (ds : List D) : enumS [.d (.lst ds)] W = .ok (enumC 0 ds) W := rfl
@[simp] theorem enumS_t (ds : List D) : enumS [.d (.tup ds)] W = .ok (enumC 0 ds) W := rfl
@[simp] theorem on1_d (g : D → Option D) (x : D) : on1 g (.d x) W = ofO ((g x).map .d) W := rfl
@[simp] theorem on2_d (g : D → D → Option D) (x y : D) : on2 g (.d x) (.d y) W = ofO ((g x y).map .d) W := rfl
@[simp] theorem conts_cons (x : D) (vs : List Vl) : conts W (.d x :: vs) = (conts W vs).map (x :: ·) := by
  show (match some x, conts W vs with | some d, some ds => some (d :: ds) | _, _ => none) = _
  cases conts W vs <;> rfl
@[simp] theorem onL_s (g : List D → Option D) (as : List Vl) : onL g as W = ofO (((conts W as).bind g).map .d) W := rfl
@[simp] theorem onP_s (g : List D → Option D) (as : List Vl) : onP g as W = ofO (((pureL as).bind g).map .d) W := rfl
end
@[simp] theorem isiD_1 (x : D) (t : Ty) : isiD [x, .ty t] = (tyN x).map fun u => .bl (isTy u t) := rfl
@[simp] theorem isiD_2 (x : D) (cs : List D) : isiD [x, .tup cs] = (tyN x).bind fun u => (tysOf cs).map fun ts => .bl (ts.any (isTy u)) := rfl
@[simp] theorem tysOf_nil : tysOf [] = some [] := rfl
@[simp] theorem tysOf_cons (t : Ty) (r : List D) : tysOf (.ty t :: r) = (tysOf r).map (t :: ·) := rfl
@[simp] theorem notS_bl (b : Bool) : notS (.bl b) = some (.bl (!b)) := rfl
@[simp] theorem negS_int (i : Int) : negS (.int i) = some (.int (-i)) := rfl
@[simp] theorem ltS_int (i j : Int) : ltS (.int i) (.int j) = some (.bl (decide (i < j))) := rfl
@[simp] theorem leS_int (i j : Int) : leS (.int i) (.int j) = some (.bl (decide (i ≤ j))) := rfl
@[simp] theorem gtS_int (i j : Int) : gtS (.int i) (.int j) = some (.bl (decide (j < i))) := rfl
@[simp] theorem geS_int (i j : Int) : geS (.int i) (.int j) = some (.bl (decide (j ≤ i))) := rfl
@[simp] theorem subS_int (i j : Int) : subS (.int i) (.int j) = some (.int (i - j)) := rfl
@[simp] theorem addS_int (i j : Int) : addS (.int i) (.int j) = some (.int (i + j)) := rfl
@[simp] theorem iaddS_int (i j : Int) : iaddS (.int i) (.int j) = some (.int (i + j)) := rfl
@[simp] theorem mulS_int (i j : Int) : mulS (.int i) (.int j) = if CMulD i j then some (.int (i * j)) else none := rfl
@[simp] theorem fdivS_int (i j : Int) : fdivS (.int i) (.int j) = if CDivD i j then some (.int (i.fdiv j)) else none := rfl
@[simp] theorem modS_int (i j : Int) : modS (.int i) (.int j) = if j ≠ 0 then some (.int (i.fmod j)) else none := rfl
@[simp] theorem powS_int (i j : Int) : powS (.int i) (.int j) = if CPowD i j then some (.int (i ^ j.toNat)) else none := rfl
@[simp] theorem lenD_l (ds : List D) : lenD (.lst ds) = some (.int ds.length) := rfl
@[simp] theorem lenD_t (ds : List D) : lenD (.tup ds) = some (.int ds.length) := rfl
@[simp] theorem lenD_s (ds : List Int) : lenD (.scr ds) = some (.int ds.length) := rfl
@[simp] theorem intD_i (i : Int) : intD (.int i) = some (.int i) := rfl
@[simp] theorem idxS_l (ds : List D) (i : Int) : idxS (.lst ds) (.int i) = atI ds i := rfl
@[simp] theorem idxS_t (ds : List D) (i : Int) : idxS (.tup ds) (.int i) = atI ds i := rfl
@[simp] theorem idxS_s (ds : List Int) (i : Int) : idxS (.scr ds) (.int i) = (atI ds i).map .int := rfl
@[simp] theorem truD_bl (b : Bool) : truD (.bl b) = some b := rfl
@[simp] theorem truD_l (ds : List D) : truD (.lst ds) = some (!ds.isEmpty) := rfl
@[simp] theorem truD_t (ds : List D) : truD (.tup ds) = some (!ds.isEmpty) := rfl
@[simp] theorem allD_l (ds : List D) : allD (.lst ds) = (blsOf ds).map fun bs => .bl (bs.all id) := rfl
@[simp] theorem tupleD_l (ds : List D) : tupleD (.lst ds) = some (.tup ds) := rfl
@[simp] theorem tupleD_t (ds : List D) : tupleD (.tup ds) = some (.tup ds) := rfl
@[simp] theorem finF_d (n : Nat) (x : D) (W' : List O) : finF n (.d x) W' = .ok (.d x) (W'.take n) := rfl
theorem atI_nat {α : Type} (l : List α) (i : Nat) (h : i < l.length) : atI l (i : Int) = l[i]? := by
  unfold atI ixN
  split <;> simp_all
theorem enumC_cons (c : Int) (d : D) (ds : List D) : enumC c (d :: ds) = .tup [.int c, d] :: enumC (c + 1) ds := by
  unfold enumC
  rw [List.length_cons, List.range_succ_eq_map, List.map_cons, List.map_map]
  have h1 : c + ((0 : Nat) : Int) = c := by simp
  rw [h1]
  show D.tup [.int c, d] :: _ = D.tup [.int c, d] :: _
  congr 1
  refine List.map_congr_left fun i hi => ?_
  show D.tup [.int (c + ((i + 1 : Nat) : Int)), (d :: ds).getD (i + 1) .non] = D.tup [.int (c + 1 + (i : Nat)), ds.getD i .non]
  have h2 : c + ((i + 1 : Nat) : Int) = c + 1 + (i : Nat) := by omega
  rw [h2, List.getD_cons_succ]
theorem enumC_nil (c : Int) : enumC c [] = [] := rfl
@[simp] theorem mkTup_s {ds : List D} (h : ds.length ≤ 1000) : mkTup ds = some (.tup ds) := by
  unfold mkTup
  rw [if_pos (by rw [sizeLine_eq]; omega)]
@[simp] theorem mkLst_s {ds : List D} (h : ds.length ≤ 1000) : mkLst ds = some (.lst ds) := by
  unfold mkLst
  rw [if_pos (by rw [sizeLine_eq]; omega)]
@[simp] theorem mkObjL_s {as : List Vl} {ds : List D} {W : List O} (h : pureL as = some ds) (hl : ds.length ≤ 1000) : mkObjL as W = .ok (.o W.length) (W ++ [.lst ds]) := by
  unfold mkObjL newObj
  rw [h]
  simp only
  rw [if_pos (by rw [sizeLine_eq]; omega)]
theorem CMulD_l {i j : Int} (h : i.natAbs ≤ 1000000000000000000) : CMulD i j := .inl (by omega)
theorem CMulD_r {i j : Int} (h : j.natAbs ≤ 1000000000000000000) : CMulD i j := .inr (by omega)
theorem CDivD_s {i j : Int} (h : 0 < j) (h2 : j < 1073741824) : CDivD i j := ⟨by omega, by omega⟩
/-! ### the draws -/
/-- a law's row: the script, the next cell, the seed, the rest -/
abbrev RW (s : List Int) (p sd r : Int) : List O := [.lst [.scr s, .int p, .int sd, .int r]]
def RowOk (s : List Int) (W : List O) : Prop := ∃ p sd r : Int, W = RW s p sd r ∧ 0 ≤ p ∧ 0 ≤ sd ∧ sd ≤ 2147483647
/-! ### loops -/
theorem lc_map {p : TgP} {f : Sem Vl} {ρ : Rho} {W : List O} (b : D → Rho) (g : D → D) : ∀ ds : List D, (∀ d ∈ ds, bindP p d ρ = some (b d) ∧ f (b d) W = .ok (.d (g d)) W) → lcL p tTru f ρ ds W = .ok (ds.map g) W
  | [], _ => rfl
  | d :: ds, h => by
    obtain ⟨h1, h2⟩ := h d List.mem_cons_self
    unfold lcL
    rw [h1]
    simp only [tTru_s, bind_ok, if_true, h2, pureD_d, lc_map b g ds fun x hx => h x (List.mem_cons_of_mem _ hx), List.map_cons]
theorem lc_filter {p : TgP} {t : Sem Bool} {f : Sem Vl} {ρ : Rho} {W : List O} (b : D → Rho) (q : D → Bool) (g : D → D) : ∀ ds : List D, (∀ d ∈ ds, bindP p d ρ = some (b d) ∧ t (b d) W = .ok (q d) W ∧ (q d = true → f (b d) W = .ok (.d (g d)) W)) → lcL p t f ρ ds W = .ok ((ds.filter q).map g) W
  | [], _ => rfl
  | d :: ds, h => by
    obtain ⟨h1, h2, h3⟩ := h d List.mem_cons_self
    have ih := lc_filter b q g ds fun x hx => h x (List.mem_cons_of_mem _ hx)
    unfold lcL
    rw [h1]
    simp only [bind_ok, h2]
    cases hq : q d with
    | false => rw [List.filter_cons_of_neg (by rw [hq]; decide)]; simpa using ih
    | true => rw [List.filter_cons_of_pos hq]; simp only [if_true, h3 hq, bind_ok, pureD_d, ih, List.map_cons]
@[simp] theorem forL_nil (p : TgP) (body : SemS) (ρ : Rho) (W : List O) : forL p body [] ρ W = .ok .nx ρ W := rfl
theorem forL_cons {p : TgP} {body : SemS} {d : D} {ds : List D} {ρ ρ' : Rho} {W : List O} (h : bindP p d ρ = some ρ') : forL p body (d :: ds) ρ W = (body ρ' W).bind fun f ρ1 W1 => match f with
      | .nx => forL p body ds ρ1 W1
      | .ct => forL p body ds ρ1 W1
      | .bk => .ok .nx ρ1 W1
      | .rt x => .ok (.rt x) ρ1 W1 := by
  conv => lhs; unfold forL
  rw [h]
  all_goals rfl
@[simp] theorem blsOf_bl (f : D → Bool) : ∀ ds : List D, blsOf (ds.map fun d => .bl (f d)) = some (ds.map f)
  | [] => rfl
  | d :: ds => by
    show (blsOf (ds.map fun d => .bl (f d))).map (f d :: ·) = _
    rw [blsOf_bl f ds]; rfl
@[simp] theorem blsOf_nil : blsOf [] = some [] := rfl
@[simp] theorem blsOf_cons (b : Bool) (r : List D) : blsOf (.bl b :: r) = (blsOf r).map (b :: ·) := rfl
@[simp] theorem intsOf_nil : intsOf [] = some [] := rfl
@[simp] theorem intsOf_cons (b : Int) (r : List D) : intsOf (.int b :: r) = (intsOf r).map (b :: ·) := rfl
end VL
set_option Elab.async false
set_option linter.all false
set_option maxRecDepth 100000
set_option maxHeartbeats 4000000
namespace VL
open PySem PySem.Spec PyProof.Rows L2
/-! ### equality of the same -/
theorem eqS_self {d : D} {p : PyData} (h : toPy d = some p) (hd : p.depth ≤ 60) : eqS d d = some (.bl true) := by
  unfold eqS
  rw [h]
  simp only
  rw [if_pos (by simpa using hd), PySem.SeqAt.eqv_refl_plain p (plain_toPy _ _ h)]
theorem neS_self {d : D} {p : PyData} (h : toPy d = some p) (hd : p.depth ≤ 60) : neS d d = some (.bl false) := by
  unfold neS
  rw [h]
  simp only
  rw [if_pos (by simpa using hd), PySem.SeqAt.eqv_refl_plain p (plain_toPy _ _ h)]
  rfl
theorem eqS_int (i j : Int) : eqS (.int i) (.int j) = some (.bl (decide (i = j))) := by
  unfold eqS
  simp [toPy, PyData.depth, PyData.eqv]
  by_cases h : i = j <;> simp [h]
theorem neS_int (i j : Int) : neS (.int i) (.int j) = some (.bl (!decide (i = j))) := by
  unfold neS
  simp [toPy, PyData.depth, PyData.eqv]
  by_cases h : i = j <;> simp [h]
theorem eqS_bl (i j : Bool) : eqS (.bl i) (.bl j) = some (.bl (decide (i = j))) := by
  unfold eqS
  cases i <;> cases j <;> simp [toPy, PyData.depth, PyData.eqv]
theorem neS_bl (i j : Bool) : neS (.bl i) (.bl j) = some (.bl (!decide (i = j))) := by
  unfold neS
  cases i <;> cases j <;> simp [toPy, PyData.depth, PyData.eqv]
@[simp] theorem toPyL_ints : ∀ is : List Int, toPyL (is.map .int) = some (is.map .int)
  | [] => rfl
  | i :: is => by
    show (match toPy (.int i), toPyL (is.map .int) with | some p, some ps => some (p :: ps) | _, _ => none) = _
    rw [toPyL_ints is]; rfl
theorem toPy_ints (is : List Int) : toPy (.lst (is.map .int)) = some (.list (is.map .int)) := by
  show (toPyL (is.map .int)).map PyData.list = _
  rw [toPyL_ints]; rfl
theorem toPy_tints (is : List Int) : toPy (.tup (is.map .int)) = some (.tuple (is.map .int)) := by
  show (toPyL (is.map .int)).map PyData.tuple = _
  rw [toPyL_ints]; rfl
theorem depth_ints (is : List Int) : (PyData.list (is.map .int)).depth = 1 ∧ (PyData.tuple (is.map .int)).depth = 1 := by
  have h := PySem.W.depth_ints is
  constructor <;> (unfold PyData.depth; omega)
/-- not equal to an empty list -/
theorem eqS_nil {ds : List D} {ps : List PyData} (h : toPyL ds = some ps) : eqS (.lst ds) (.lst []) = some (.bl ds.isEmpty) := by
  unfold eqS
  have e1 : toPy (.lst ds) = some (.list ps) := by show (toPyL ds).map PyData.list = _; rw [h]; rfl
  have e2 : toPy (.lst []) = some (.list []) := rfl
  rw [e1, e2]
  simp only
  have hd : (PyData.list []).depth = 1 := by unfold PyData.depth; simp [PyData.depthAll]
  rw [if_pos (by rw [hd]; omega)]
  cases ds with
  | nil => cases h; rfl
  | cons d ds =>
    unfold toPyL at h
    split at h
    · cases h
      simp [PyData.eqv, PyData.eqvAll]
    · cases h
theorem neS_nil {ds : List D} {ps : List PyData} (h : toPyL ds = some ps) : neS (.lst ds) (.lst []) = some (.bl (!ds.isEmpty)) := by
  have e := eqS_nil h
  unfold eqS at e
  unfold neS
  split at e
  · rename_i p q e1 e2
    split at e
    · rename_i hd
      rw [if_pos hd]
      have := Option.some.inj e
      rw [D.bl.inj this]
    · cases e
  · cases e
/-! ### sorted ints -/
theorem sortL_ints {is : List Int} (h : is.length ≤ sizeLine) : sortL (is.map .int) = some ((is.mergeSort fun a b => decide (a ≤ b)).map .int) := by
  unfold sortL
  split
  · rename_i hl
    rw [List.length_map] at hl
    match is, hl with
    | [], _ => simp
    | [x], _ => simp
  · have hp : ∀ i : Int, pyOf (.int i) = .int i := fun _ => rfl
    have em : (is.map D.int).map pyOf = is.map PyData.int := by rw [List.map_map]; rfl
    rw [if_pos]
    · congr 1
      have key : ∀ l : List Int, (l.map D.int).mergeSort (PySem.W.dataLe false pyOf) = (l.mergeSort fun a b => decide (a ≤ b)).map D.int := fun l => by
        refine (List.map_mergeSort (r := fun a b => decide (a ≤ b)) (s := PySem.W.dataLe false pyOf) (f := D.int) (fun a ha b hb => ?_)).symm
        have e := PySem.W.dataLe_int (β := Int) fun x => x
        have e2 := congrFun (congrFun e a) b
        exact e2.symm
      exact key is
    · refine ⟨?_, ?_, ?_, ?_, by rw [List.length_map]; exact h⟩
      · rw [List.all_map]; exact List.all_eq_true.mpr fun _ _ => rfl
      · unfold alikeB
        rw [em, List.all_map]
        refine List.all_eq_true.mpr fun x _ => ?_
        show (is.map PyData.int).all _ = true
        rw [List.all_map]
        exact List.all_eq_true.mpr fun y _ => by simp [PySem.W.alike]
      · unfold sortableB
        rw [em, Bool.or_eq_true, Bool.or_eq_true]
        left; right
        rw [List.all_map]; exact List.all_eq_true.mpr fun _ _ => rfl
      · rw [List.all_map]; exact List.all_eq_true.mpr fun _ _ => by simp [hp, PyData.depth]
theorem ints_uniq {l m : List Int} (p : l.Perm m) (hl : l.Pairwise (· ≤ ·)) (hm : m.Pairwise (· ≤ ·)) : l = m :=
  p.eq_of_pairwise (fun a b _ _ h1 h2 => Int.le_antisymm h1 h2) hl hm
theorem sort_pairwise (l : List Int) : (l.mergeSort fun a b => decide (a ≤ b)).Pairwise (· ≤ ·) := by
  have h := List.pairwise_mergeSort (le := fun a b : Int => decide (a ≤ b)) (fun a b c h1 h2 => by simp at *; omega) (fun a b => by simp; omega) l
  exact h.imp fun h => of_decide_eq_true h
theorem sort_of_perm {l m : List Int} (p : l.Perm m) (hm : m.Pairwise (· ≤ ·)) : (l.mergeSort fun a b => decide (a ≤ b)) = m :=
  ints_uniq ((List.mergeSort_perm _ _).trans p) (sort_pairwise l) hm
/-- 0 .. n - 1 -/
def rngI (n : Nat) : List Int := (List.range n).map fun (i : Nat) => (i : Int)
theorem rngD_eq (n : Nat) : rngD 0 (n : Int) = (rngI n).map .int := by
  unfold rngD rngI
  rw [List.map_map]
  have : ((n : Int) - 0).toNat = n := by omega
  rw [this]
  refine List.map_congr_left fun i _ => ?_
  simp
theorem rngI_sorted (n : Nat) : (rngI n).Pairwise (· ≤ ·) := by
  unfold rngI
  rw [List.pairwise_map]
  exact List.pairwise_lt_range.imp fun h => by omega
theorem rngI_len (n : Nat) : (rngI n).length = n := by unfold rngI; rw [List.length_map, List.length_range]
theorem rngI_mem {n : Nat} {i : Int} : i ∈ rngI n ↔ 0 ≤ i ∧ i < n := by
  unfold rngI
  rw [List.mem_map]
  constructor
  · rintro ⟨j, hj, rfl⟩
    have := List.mem_range.mp hj
    omega
  · intro ⟨h1, h2⟩
    exact ⟨i.toNat, List.mem_range.mpr (by omega), by omega⟩
theorem rngI_nodup (n : Nat) : (rngI n).Nodup := by
  unfold rngI
  exact List.Pairwise.map _ (fun a b h => by omega) List.nodup_range
theorem rngI_succ (n : Nat) : rngI (n + 1) = rngI n ++ [(n : Int)] := by
  unfold rngI
  rw [List.range_succ, List.map_append]; rfl
end VL
set_option Elab.async false
set_option linter.all false
set_option maxRecDepth 100000
set_option maxHeartbeats 4000000
namespace VL
open PySem PySem.Spec PyProof.Rows L2
/-! ### comprehensions over a mapped list -/
theorem lc_mapm {α : Type} {p : TgP} {f : VL.Sem Vl} {ρ : Rho} {W : List O} (F : α → D) (b : α → Rho) (g : α → D) : ∀ l : List α, (∀ a ∈ l, bindP p (F a) ρ = some (b a) ∧ f (b a) W = .ok (.d (g a)) W) → lcL p tTru f ρ (l.map F) W = .ok (l.map g) W
  | [], _ => rfl
  | a :: l, h => by
    obtain ⟨h1, h2⟩ := h a List.mem_cons_self
    rw [List.map_cons]
    unfold lcL
    rw [h1]
    simp only [tTru_s, bind_ok, if_true, h2, pureD_d, lc_mapm F b g l fun x hx => h x (List.mem_cons_of_mem _ hx), List.map_cons]
/-- with a state that moves: some value of each -/
theorem lc_drawn {p : TgP} {f : VL.Sem Vl} {ρ : Rho} {R : List O → Prop} {q : D → D → Prop} : ∀ (ds : List D) (W : List O), R W → (∀ d ∈ ds, ∀ W, R W → ∃ b y W', bindP p d ρ = some b ∧ f b W = .ok (.d y) W' ∧ q d y ∧ R W') →
    ∃ ys W', lcL p tTru f ρ ds W = .ok ys W' ∧ ys.length = ds.length ∧ (∀ y ∈ ys, ∃ d ∈ ds, q d y) ∧ R W'
  | [], W, hR, _ => ⟨[], W, rfl, rfl, fun y hy => absurd hy List.not_mem_nil, hR⟩
  | d :: ds, W, hR, h => by
    obtain ⟨b, y, W1, h1, h2, h3, h4⟩ := h d List.mem_cons_self W hR
    obtain ⟨ys, W2, i1, i2, i3, i4⟩ := lc_drawn ds W1 h4 fun x hx => h x (List.mem_cons_of_mem _ hx)
    refine ⟨y :: ys, W2, ?_, by simp [i2], fun z hz => ?_, i4⟩
    · unfold lcL
      rw [h1]
      simp only [tTru_s, bind_ok, if_true, h2, pureD_d, i1]
    · rcases List.mem_cons.mp hz with rfl | hz
      · exact ⟨d, List.mem_cons_self, h3⟩
      · obtain ⟨d', m, q⟩ := i3 z hz
        exact ⟨d', List.mem_cons_of_mem _ m, q⟩
/-- a loop that keeps a bond between the slots and the objects -/
theorem for_inv {p : TgP} {body : SemS} {I : Rho → List O → Prop} : ∀ (ds : List D) (ρ : Rho) (W : List O), I ρ W → (∀ d ∈ ds, ∀ ρ W, I ρ W → ∃ b ρ' W', bindP p d ρ = some b ∧ body b W = .ok .nx ρ' W' ∧ I ρ' W') →
    ∃ ρ' W', forL p body ds ρ W = .ok .nx ρ' W' ∧ I ρ' W'
  | [], ρ, W, h, _ => ⟨ρ, W, rfl, h⟩
  | d :: ds, ρ, W, h, H => by
    obtain ⟨b, ρ1, W1, h1, h2, h3⟩ := H d List.mem_cons_self ρ W h
    rw [forL_cons h1, h2]
    exact for_inv ds ρ1 W1 h3 fun x hx => H x (List.mem_cons_of_mem _ hx)
@[simp] theorem aug_s (i : Nat) (g : D → D → Option D) (f : VL.Sem Vl) (ρ : Rho) (W : List O) (a : Vl) (h : ρ[i]? = some (some a)) : sAug i g f ρ W = liftS (f ρ W) ρ fun b W1 => liftS (on2 g a b W1) ρ fun z W2 => .ok .nx (ρ.set i (some z)) W2 := by
  unfold sAug; rw [h]
@[simp] theorem cont_last (W : List O) (xs : List D) : cont (W ++ [.lst xs]) (.o W.length) = some (.lst xs) := by
  show (match (W ++ [O.lst xs])[W.length]? with | some (.lst xs) => some (D.lst xs) | some (.dic t k) => some (.dic t k) | some (.lck t k) => some (.dic t k) | some (.ins c fs) => some (.ins c fs) | _ => none) = _
  rw [List.getElem?_concat_length]
theorem atI_at {α : Type} (a : List α) (x : α) (b : List α) : atI (a ++ x :: b) (a.length : Int) = some x := by
  rw [atI_nat _ _ (by simp)]
  simp
@[simp] theorem atI_3 (a b c : D) : atI [a, b, c] 0 = some a ∧ atI [a, b, c] 1 = some b ∧ atI [a, b, c] 2 = some c := ⟨rfl, rfl, rfl⟩
@[simp] theorem atI_2 (a b : D) : atI [a, b] 0 = some a ∧ atI [a, b] 1 = some b := ⟨rfl, rfl⟩
theorem tw_take {α : Type} (p : α → Bool) : ∀ l : List α, l.take (l.takeWhile p).length = l.takeWhile p
  | [] => rfl
  | x :: l => by
    cases h : p x with
    | true => simp [h, tw_take p l]
    | false => simp [h]
theorem tw_drop {α : Type} (p : α → Bool) : ∀ l : List α, l.drop (l.takeWhile p).length = l.dropWhile p
  | [] => rfl
  | x :: l => by
    cases h : p x with
    | true => simp [h, tw_drop p l]
    | false => simp [h]
@[simp] theorem set_lastO (W : List O) (x y : O) : (W ++ [x]).set W.length y = W ++ [y] := by simp
/-- a place of a mapped list -/
theorem atI_map {α : Type} (F : α → D) (l : List α) (i : Int) (h : 0 ≤ i) (h2 : i < l.length) : atI (l.map F) i = some (F (l[i.toNat]'(by omega))) := by
  have e : i = ((i.toNat : Nat) : Int) := by omega
  conv => lhs; rw [e]
  rw [atI_nat _ _ (by rw [List.length_map]; omega), List.getElem?_map, List.getElem?_eq_getElem (by omega)]; rfl
end VL
set_option Elab.async false
set_option linter.all false
set_option maxRecDepth 100000
set_option maxHeartbeats 4000000
namespace VL
open PySem PySem.Spec PyProof.Rows L2
theorem sTup_ok {p : TgP} {f : VL.Sem Vl} {ρ ρ' : Rho} {W W1 : List O} {x : D} (h1 : f ρ W = .ok (.d x) W1) (h2 : bindP p x ρ = some ρ') : sTup p f ρ W = .ok .nx ρ' W1 := by
  unfold sTup
  rw [h1]
  simp only [liftS_ok, h2]
theorem cut_head (xs : List D) {k : Int} (h : 0 ≤ k) : cutD xs none (some k) = xs.take k.toNat := by
  unfold cutD
  have e : HT.sIx xs.length xs.length (some k) = min k.toNat xs.length := by
    unfold HT.sIx; simp only; rw [if_neg (by omega)]
  rw [e, HT.sIx_none, List.drop_zero, Nat.sub_zero]
  by_cases hk : k.toNat ≤ xs.length
  · rw [Nat.min_eq_left hk]
  · rw [Nat.min_eq_right (by omega), List.take_length, List.take_of_length_le (by omega)]
theorem cut_tail (xs : List D) {k : Int} (h : 0 ≤ k) : cutD xs (some k) none = xs.drop k.toNat := by
  unfold cutD
  have e : HT.sIx xs.length 0 (some k) = min k.toNat xs.length := by
    unfold HT.sIx; simp only; rw [if_neg (by omega)]
  rw [e, HT.sIx_none, List.take_of_length_le (by rw [List.length_drop]; omega)]
  by_cases hk : k.toNat ≤ xs.length
  · rw [Nat.min_eq_left hk]
  · rw [Nat.min_eq_right (by omega), List.drop_of_length_le (Nat.le_refl _), List.drop_of_length_le (by omega)]
theorem blsOf_m {α : Type} (f : α → Bool) : ∀ l : List α, blsOf (l.map fun a => .bl (f a)) = some (l.map f)
  | [] => rfl
  | x :: l => by
    show (blsOf (l.map fun a => .bl (f a))).map (f x :: ·) = _
    rw [blsOf_m f l]; rfl
theorem rngS1_s (j : Int) (W : List O) (h : -(2 ^ 62) ≤ j ∧ j < 2 ^ 62) : rngS1 [.d (.int j)] W = .ok (rngD 0 j) W := by
  unfold rngS1; simp only; rw [if_pos h]
theorem rngS2_s (i j : Int) (W : List O) (h : -(2 ^ 62) ≤ i ∧ i < 2 ^ 62 ∧ -(2 ^ 62) ≤ j ∧ j < 2 ^ 62) : rngS2 [.d (.int i), .d (.int j)] W = .ok (rngD i j) W := by
  unfold rngS2; simp only; rw [if_pos h]
theorem iRng1_ok {f : VL.Sem (List Vl)} {ρ : Rho} {W W1 : List O} {j : Int} (h : f ρ W = .ok [.d (.int j)] W1) (hj : -(2 ^ 62) ≤ j ∧ j < 2 ^ 62) : iRng1 f ρ W = .ok (rngD 0 j) W1 := by
  rw [iRng1_s, h, bind_ok, rngS1_s _ _ hj]
theorem iRng2_ok {f : VL.Sem (List Vl)} {ρ : Rho} {W W1 : List O} {i j : Int} (h : f ρ W = .ok [.d (.int i), .d (.int j)] W1) (hj : -(2 ^ 62) ≤ i ∧ i < 2 ^ 62 ∧ -(2 ^ 62) ≤ j ∧ j < 2 ^ 62) : iRng2 f ρ W = .ok (rngD i j) W1 := by
  rw [iRng2_s, h, bind_ok, rngS2_s _ _ _ hj]
theorem addS_l {a b : List D} (h : a.length + b.length ≤ sizeLine) : addS (.lst a) (.lst b) = some (.lst (a ++ b)) := if_pos h
theorem addS_t {a b : List D} (h : a.length + b.length ≤ sizeLine) : addS (.tup a) (.tup b) = some (.tup (a ++ b)) := if_pos h
/-! ### lists of ints compared -/
theorem eqvAll_ints : ∀ a b : List Int, PyData.eqvAll (a.map .int) (b.map .int) = decide (a = b)
  | [], [] => by simp [PyData.eqvAll]
  | [], _ :: _ => by simp [PyData.eqvAll]
  | _ :: _, [] => by simp [PyData.eqvAll]
  | x :: a, y :: b => by
    have ih := eqvAll_ints a b
    simp only [List.map_cons]
    unfold PyData.eqvAll
    rw [ih]
    by_cases h : x = y <;> simp [PyData.eqv, h]
theorem neS_ints (a b : List Int) : neS (.lst (a.map .int)) (.lst (b.map .int)) = some (.bl (!decide (a = b))) := by
  unfold neS
  rw [toPy_ints, toPy_ints]
  simp only
  rw [if_pos (by rw [(depth_ints a).1, (depth_ints b).1]; omega)]
  congr 3
  unfold PyData.eqv
  exact eqvAll_ints a b
theorem eqS_ints (a b : List Int) : eqS (.lst (a.map .int)) (.lst (b.map .int)) = some (.bl (decide (a = b))) := by
  unfold eqS
  rw [toPy_ints, toPy_ints]
  simp only
  rw [if_pos (by rw [(depth_ints a).1, (depth_ints b).1]; omega)]
  congr 2
  unfold PyData.eqv
  exact eqvAll_ints a b
/-! ### sorted tuples of ints, all of a length -/
theorem alikeAll_ints : ∀ a b : List Int, PySem.W.alikeAll (a.map .int) (b.map .int) = true
  | [], [] => by simp [PySem.W.alikeAll]
  | [], _ :: _ => by simp [PySem.W.alikeAll]
  | _ :: _, [] => by simp [PySem.W.alikeAll]
  | x :: a, y :: b => by
    simp only [List.map_cons]
    unfold PySem.W.alikeAll
    rw [alikeAll_ints a b]
    simp [PySem.W.alike]
theorem pyOf_ints (a : List Int) : pyOf (.tup (a.map .int)) = .tuple (a.map .int) := by
  unfold pyOf; rw [toPy_tints]; rfl
theorem sortL_tups {l : List (List Int)} (hl : l.length ≤ sizeLine) (h : 2 ≤ l.length → ∀ a ∈ l, a ≠ []) : ∃ zs : List (List Int), sortL (l.map fun a => .tup (a.map .int)) = some (zs.map fun a => .tup (a.map .int)) ∧ zs.Perm l := by
  unfold sortL
  split
  · exact ⟨l, rfl, List.Perm.refl _⟩
  · rename_i hl2
    rw [List.length_map] at hl2
    have ne := h (by omega)
    have em : (l.map fun a => D.tup (a.map D.int)).map pyOf = l.map fun a => PyData.tuple (a.map .int) := by
      rw [List.map_map]; exact List.map_congr_left fun a _ => pyOf_ints a
    rw [if_pos]
    · exact ⟨l.mergeSort fun a b => PySem.W.dataLe false pyOf (.tup (a.map .int)) (.tup (b.map .int)), congrArg some (List.map_mergeSort (r := fun a b => PySem.W.dataLe false pyOf (.tup (a.map .int)) (.tup (b.map .int))) (s := PySem.W.dataLe false pyOf) (f := fun a : List Int => D.tup (a.map D.int)) (l := l) (fun _ _ _ _ => rfl)).symm, List.mergeSort_perm _ _⟩
    · refine ⟨?_, ?_, ?_, ?_, by rw [List.length_map]; exact hl⟩
      · rw [List.all_map]
        refine List.all_eq_true.mpr fun a _ => ?_
        show (toPy (.tup (a.map .int))).isSome = true
        rw [toPy_tints]; rfl
      · unfold alikeB
        rw [em, List.all_map]
        refine List.all_eq_true.mpr fun a _ => ?_
        show (l.map fun a => PyData.tuple (a.map .int)).all _ = true
        rw [List.all_map]
        refine List.all_eq_true.mpr fun b _ => ?_
        show PySem.W.alike (.tuple (a.map .int)) (.tuple (b.map .int)) = true
        unfold PySem.W.alike
        exact alikeAll_ints a b
      · unfold sortableB
        rw [em, Bool.or_eq_true, Bool.or_eq_true]
        left; left
        rw [List.all_map]
        refine List.all_eq_true.mpr fun a ha => ?_
        match a, ne a ha with
        | x :: a, _ => rfl
      · rw [List.all_map]
        refine List.all_eq_true.mpr fun a _ => ?_
        show decide ((pyOf (.tup (a.map .int))).depth ≤ 60) = true
        rw [pyOf_ints, (depth_ints a).2]; rfl
end VL
set_option Elab.async false
set_option linter.all false
set_option maxRecDepth 100000
set_option maxHeartbeats 4000000
namespace VL
open PySem PySem.Spec PyProof.Rows L2
/-! ### small data can be shown -/
structure Sm (p : PyData) (w d : Nat) : Prop where
  sh : p.showable = true
  lf : p.leavesShort 13 = true
  wt : p.weight ≤ w
  dp : p.depth ≤ d
  nd : p.hasDict = false
theorem Sm.mono {p : PyData} {w d w' d' : Nat} (h : Sm p w d) (hw : w ≤ w') (hd : d ≤ d') : Sm p w' d' := ⟨h.sh, h.lf, Nat.le_trans h.wt hw, Nat.le_trans h.dp hd, h.nd⟩
theorem sm_none : Sm .none 0 0 := ⟨by simp [PyData.showable], by simp [PyData.leavesShort], by simp [PyData.weight], by simp [PyData.depth], by simp [PyData.hasDict]⟩
theorem sm_bool (b : Bool) : Sm (.bool b) 0 0 := ⟨by simp [PyData.showable], by simp [PyData.leavesShort], by simp [PyData.weight], by simp [PyData.depth], by simp [PyData.hasDict]⟩
theorem sm_int {i : Int} (h : i.natAbs < 2 ^ 20) : Sm (.int i) 20 0 := by
  have hl : i.natAbs.log2 < 20 ∨ i.natAbs = 0 := by
    by_cases h0 : i.natAbs = 0
    · exact .inr h0
    · exact .inl ((Nat.log2_lt h0).mpr h)
  refine ⟨?_, ?_, ?_, by simp [PyData.depth], by simp [PyData.hasDict]⟩
  · unfold PyData.showable
    refine decide_eq_true ?_
    rcases hl with h | h
    · omega
    · rw [h]; decide
  · unfold PyData.leavesShort
    exact decide_eq_true (PyData.shown_int_le (by omega))
  · unfold PyData.weight
    split
    · omega
    · rename_i hz
      rcases hl with h | h
      · omega
      · exact absurd (by simpa using h) hz
theorem sm_str {x : Str} (h : ∀ c ∈ x.cps.toList, c < 16 ^ 8) : Sm (.str x) x.cps.size 0 :=
  ⟨by simp [PyData.showable], by unfold PyData.leavesShort; exact List.all_eq_true.mpr fun c hc => decide_eq_true (h c hc), by simp [PyData.weight], by simp [PyData.depth], by simp [PyData.hasDict]⟩
theorem sm_all {w d : Nat} : ∀ {xs : List PyData}, (∀ x ∈ xs, Sm x w d) → PyData.showableAll xs = true ∧ PyData.leavesShortAll 13 xs = true ∧ PyData.weightAll xs ≤ (w + 1) * xs.length ∧ PyData.depthAll xs ≤ d ∧ PyData.hasDictAll xs = false
  | [], _ => ⟨by simp [PyData.showableAll], by simp [PyData.leavesShortAll], by simp [PyData.weightAll], by simp [PyData.depthAll], by simp [PyData.hasDictAll]⟩
  | x :: xs, h => by
    obtain ⟨h1, h2, h3, h4, h5⟩ := sm_all (xs := xs) fun y hy => h y (List.mem_cons_of_mem _ hy)
    have hx := h x List.mem_cons_self
    refine ⟨by simp [PyData.showableAll, h1, hx.sh], by simp [PyData.leavesShortAll, h2, hx.lf], ?_, ?_, by simp [PyData.hasDictAll, h5, hx.nd]⟩
    · unfold PyData.weightAll
      have := hx.wt
      rw [List.length_cons, Nat.mul_add]
      omega
    · unfold PyData.depthAll
      have := hx.dp
      omega
theorem sm_list {w d : Nat} {xs : List PyData} (h : ∀ x ∈ xs, Sm x w d) : Sm (.list xs) ((w + 1) * xs.length) (d + 1) := by
  obtain ⟨h1, h2, h3, h4, h5⟩ := sm_all h
  exact ⟨by simp [PyData.showable, h1], by simp [PyData.leavesShort, h2], by simp [PyData.weight]; exact h3, by unfold PyData.depth; omega, by simp [PyData.hasDict, h5]⟩
theorem sm_tuple {w d : Nat} {xs : List PyData} (h : ∀ x ∈ xs, Sm x w d) : Sm (.tuple xs) ((w + 1) * xs.length) (d + 1) := by
  obtain ⟨h1, h2, h3, h4, h5⟩ := sm_all h
  exact ⟨by simp [PyData.showable, h1], by simp [PyData.leavesShort, h2], by simp [PyData.weight]; exact h3, by unfold PyData.depth; omega, by simp [PyData.hasDict, h5]⟩
theorem Sm.len {p : PyData} {w d : Nat} (h : Sm p w d) (hw : w ≤ 10000) : p.shown.length ≤ sizeLine := by
  have := PyData.shown_le 13 (by omega) p h.lf
  have h2 := h.wt
  rw [sizeLine_eq]
  have h3 : (13 + 2) * p.weight ≤ 15 * 10000 := Nat.mul_le_mul (by omega) (by omega)
  omega
theorem reprD_t {ds : List D} {p : PyData} {w d : Nat} (e : toPy (.tup ds) = some p) (h : Sm p w d) (hw : w ≤ 10000) (hd : d ≤ 60) : reprD (.tup ds) = some (.str p.shown) := by
  show (toPy (.tup ds)).bind _ = _
  rw [e]
  simp only [Option.bind_some]
  rw [if_pos ⟨h.sh, Nat.le_trans h.dp hd, h.len hw, h.nd⟩]
theorem reprD_l {ds : List D} {p : PyData} {w d : Nat} (e : toPy (.lst ds) = some p) (h : Sm p w d) (hw : w ≤ 10000) (hd : d ≤ 60) : reprD (.lst ds) = some (.str p.shown) := by
  show (toPy (.lst ds)).bind _ = _
  rw [e]
  simp only [Option.bind_some]
  rw [if_pos ⟨h.sh, Nat.le_trans h.dp hd, h.len hw, h.nd⟩]
theorem eqS_str (x : Str) : eqS (.str x) (.str x) = some (.bl true) := eqS_self (p := .str x) rfl (by simp [PyData.depth])
end VL
set_option Elab.async false
set_option linter.all false
set_option maxRecDepth 100000
set_option maxHeartbeats 4000000
namespace VL
open PySem PySem.Spec PyProof.Rows L2
/-! ### one step at a time -/
section
variable {ρ ρ1 : Rho} {W W1 W2 : List O} {r : ResS}
theorem sSet_ok {i : Nat} {f : VL.Sem Vl} {d : Vl} (h : f ρ W = .ok d W1) : sSet i f ρ W = .ok .nx (ρ.set i (some d)) W1 := by rw [sSet_s, h, liftS_ok]
theorem sSeq_ok {a b : SemS} (h1 : a ρ W = .ok .nx ρ1 W1) (h2 : b ρ1 W1 = r) : sSeq a b ρ W = r := by rw [sSeq_s, h1, thn_nx, h2]
theorem sSeq_rt {a b : SemS} {d : Vl} (h1 : a ρ W = .ok (.rt d) ρ1 W1) : sSeq a b ρ W = .ok (.rt d) ρ1 W1 := by rw [sSeq_s, h1]; rfl
theorem sRet_ok {f : VL.Sem Vl} {d : Vl} (h : f ρ W = .ok d W1) : sRet f ρ W = .ok (.rt d) ρ W1 := by rw [sRet_s, h, liftS_ok]
theorem sExpr_ok {f : VL.Sem Vl} {d : Vl} (h : f ρ W = .ok d W1) : sExpr f ρ W = .ok .nx ρ W1 := by rw [sExpr_s, h, liftS_ok]
theorem sFor_ok {p : TgP} {fi : VL.Sem (List D)} {body : SemS} {ds : List D} (h : fi ρ W = .ok ds W1) (h2 : forL p body ds ρ W1 = r) : sFor p fi body ρ W = r := by rw [sFor_s, h, liftS_ok, h2]
theorem sIf_t {t : VL.Sem Bool} {f g : SemS} (h : t ρ W = .ok true W1) (h2 : f ρ W1 = r) : sIf t f g ρ W = r := by rw [sIf_s, h, liftS_ok, if_pos rfl, h2]
theorem sIf_f {t : VL.Sem Bool} {f g : SemS} (h : t ρ W = .ok false W1) (h2 : g ρ W1 = r) : sIf t f g ρ W = r := by rw [sIf_s, h, liftS_ok, if_neg (by decide), h2]
theorem sIf_n {t : VL.Sem Bool} {f : SemS} (h : t ρ W = .ok false W1) : sIf t f sNx ρ W = .ok .nx ρ W1 := sIf_f h rfl
theorem eCall_1 {g : D → Option D} {f : VL.Sem Vl} {x z : D} (h : f ρ W = .ok (.d x) W1) (hz : g x = some z) : eCall (one g) (aCons f aNil) ρ W = .ok (.d z) W1 := by
  rw [eCall_s, aCons_s, h, bind_ok, aNil_s, bind_ok, bind_ok, onL_s, conts_cons, conts_nil, Option.map_some, Option.bind_some]
  rw [show one g [x] = g x from rfl, hz]; rfl
theorem eBin_ok {g : D → D → Option D} {fa fb : VL.Sem Vl} {x y z : D} (h1 : fa ρ W = .ok (.d x) W1) (h2 : fb ρ W1 = .ok (.d y) W2) (hz : g x y = some z) : eBin g fa fb ρ W = .ok (.d z) W2 := by
  rw [eBin_s, h1, bind_ok, h2, bind_ok, on2_d, hz]; rfl
theorem tOf_ok {f : VL.Sem Vl} {b : Bool} (h : f ρ W = .ok (.d (.bl b)) W1) : tOf f ρ W = .ok b W1 := by rw [tOf_s, h, bind_ok]
theorem tTru1_ok {f : VL.Sem Vl} {x : D} {b : Bool} (h : f ρ W = .ok (.d x) W1) (hb : truD x = some b) : tTru1 f ρ W = .ok b W1 := by
  rw [tTru1_s, h, bind_ok, cont_d, Option.bind_some, hb]; rfl
theorem tNot_ok {t : VL.Sem Bool} {b : Bool} (h : t ρ W = .ok b W1) : tNotD t ρ W = .ok (!b) W1 := by rw [tNotD_s, h, bind_ok]
theorem tOr_ff {t u : VL.Sem Bool} {b : Bool} (h : t ρ W = .ok false W1) (h2 : u ρ W1 = .ok b W2) : tOrD t u ρ W = .ok b W2 := by
  rw [tOrD_s, h, bind_ok, if_neg (by decide), h2]
theorem tOr_t {t u : VL.Sem Bool} (h : t ρ W = .ok true W1) : tOrD t u ρ W = .ok true W1 := by
  rw [tOrD_s, h, bind_ok, if_pos rfl]
theorem tAnd_f {t u : VL.Sem Bool} (h : t ρ W = .ok false W1) : tAndD t u ρ W = .ok false W1 := by
  rw [tAndD_s, h, bind_ok, if_neg (by decide)]
theorem tAnd_t {t u : VL.Sem Bool} {b : Bool} (h : t ρ W = .ok true W1) (h2 : u ρ W1 = .ok b W2) : tAndD t u ρ W = .ok b W2 := by
  rw [tAndD_s, h, bind_ok, if_pos rfl, h2]
theorem aNil_ok : aNil ρ W = .ok [] W := rfl
theorem aCons_ok {f : VL.Sem Vl} {fs : VL.Sem (List Vl)} {d : Vl} {ds : List Vl} (h1 : f ρ W = .ok d W1) (h2 : fs ρ W1 = .ok ds W2) : aCons f fs ρ W = .ok (d :: ds) W2 := by
  rw [aCons_s, h1, bind_ok, h2, bind_ok]
theorem a1_ok {f : VL.Sem Vl} {d : Vl} (h1 : f ρ W = .ok d W1) : aCons f aNil ρ W = .ok [d] W1 := aCons_ok h1 rfl
theorem a2_ok {f f2 : VL.Sem Vl} {d d2 : Vl} (h1 : f ρ W = .ok d W1) (h2 : f2 ρ W1 = .ok d2 W2) : aCons f (aCons f2 aNil) ρ W = .ok [d, d2] W2 := aCons_ok h1 (a1_ok h2)
theorem eFun_ok {g : List Vl → List O → Res Vl} {fs : VL.Sem (List Vl)} {as : List Vl} {r : Res Vl} (h : fs ρ W = .ok as W1) (h2 : g as W1 = r) : eFun g fs ρ W = r := by rw [eFun_s, h, bind_ok, h2]
theorem iSeq_ok {f : VL.Sem Vl} {x : D} {ds : List D} (h : f ρ W = .ok (.d x) W1) (hx : x = .lst ds ∨ x = .tup ds) : iSeq f ρ W = .ok ds W1 := by
  rw [iSeq_s, h, bind_ok]
  rcases hx with rfl | rfl <;> rfl
theorem eIf_t {t : VL.Sem Bool} {f g : VL.Sem Vl} {r : Res Vl} (h : t ρ W = .ok true W1) (h2 : f ρ W1 = r) : eIf t f g ρ W = r := by rw [eIf_s, h, bind_ok, if_pos rfl, h2]
theorem eIf_f {t : VL.Sem Bool} {f g : VL.Sem Vl} {r : Res Vl} (h : t ρ W = .ok false W1) (h2 : g ρ W1 = r) : eIf t f g ρ W = r := by rw [eIf_s, h, bind_ok, if_neg (by decide), h2]
theorem eDisp_ok {g : List D → Option D} {fa : VL.Sem (List Vl)} {as : List Vl} {ds : List D} {z : D} (h : fa ρ W = .ok as W1) (hp : pureL as = some ds) (hz : g ds = some z) : eDisp g fa ρ W = .ok (.d z) W1 := by
  rw [eDisp_s, h, bind_ok, onP_s, hp, Option.bind_some, hz]; rfl
theorem sPar_ok {i j : Nat} {f : VL.Sem (List Vl)} {a b : Vl} (h : f ρ W = .ok [a, b] W1) : sPar i j f ρ W = .ok .nx ((ρ.set i (some a)).set j (some b)) W1 := by rw [sPar_s, h, liftS_ok]
theorem lstRg_ok {f : VL.Sem Vl} {n : Nat} (h : f ρ W = .ok (.d (.int n)) W1) (hn : n ≤ 16777216) : eLstRg1 f ρ W = .ok (.d (.lst ((rngI n).map .int))) W1 := by
  rw [eLstRg1_s, h, bind_ok, ← rngD_eq]
  exact if_pos ⟨by omega, by omega⟩
theorem slice_hd {fa fh : VL.Sem Vl} {l : List D} {k : Int} (h : fa ρ W = .ok (.d (.lst l)) W1) (h2 : fh ρ W1 = .ok (.d (.int k)) W2) (hk : 0 ≤ k) : eSlice fa oNone (oSome fh) ρ W = .ok (.d (.lst (l.take k.toNat))) W2 := by
  rw [eSlice_s, h, bind_ok, oNone_s, bind_ok, oSome_s, h2, bind_ok, bind_ok, on1_d]
  show ofO ((some (D.lst (cutD l none (some k)))).map Vl.d) W2 = _
  rw [cut_head _ hk]; rfl
theorem slice_tl {fa fh : VL.Sem Vl} {l : List D} {k : Int} (h : fa ρ W = .ok (.d (.lst l)) W1) (h2 : fh ρ W1 = .ok (.d (.int k)) W2) (hk : 0 ≤ k) : eSlice fa (oSome fh) oNone ρ W = .ok (.d (.lst (l.drop k.toNat))) W2 := by
  rw [eSlice_s, h, bind_ok, oSome_s, h2, bind_ok, bind_ok, oNone_s, bind_ok, on1_d]
  show ofO ((some (D.lst (cutD l (some k) none))).map Vl.d) W2 = _
  rw [cut_tail _ hk]; rfl
theorem eRef_exc {hs : List (Nat × Str)} {f : VL.Sem Vl} {c : Nat} {y : D} {x : Str} (h : f ρ W = .exc c [y] W1) (hx : hs.lookup c = some x) : eRef hs f ρ W = .ok (.d (.tup [.str x, y])) W1 := by
  rw [eRef_s, h]
  simp only [hx]
theorem eRef_ok {hs : List (Nat × Str)} {f : VL.Sem Vl} {v : Vl} (h : f ρ W = .ok v W1) : eRef hs f ρ W = .ok (.d (.tup [.str "", .non])) W1 := by
  rw [eRef_s, h]
theorem eFunV_ok {i : Nat} {tbl : Nat → Option (Nat × (List Vl → List O → Res Vl))} {fs : VL.Sem (List Vl)} {j : Nat} {n : Nat} {g : List Vl → List O → Res Vl} {as : List Vl} {r : Res Vl} (hi : ρ[i]? = some (some (.d (.fn j)))) (ht : tbl j = some (n, g)) (h : fs ρ W = .ok as W1) (hn : as.length = n) (h2 : g as W1 = r) : eFunV i tbl fs ρ W = r := by
  unfold eFunV
  rw [hi]
  simp only [ht, h, bind_ok]
  rw [if_pos hn, h2]
end
theorem runF_rt {n : Nat} {body : SemS} {as : List Vl} {W W' : List O} {ρ : Rho} {x : D} (h : body (as.map some ++ List.replicate (n - as.length) none) W = .ok (.rt (.d x)) ρ W') (hW : W'.take W.length = W') : runF n body as W = .ok (.d x) W' := by
  unfold runF
  rw [h]
  simp only [finF_d, hW]
theorem runF_rt' {n : Nat} {body : SemS} {as : List Vl} {W W' : List O} {ρ : Rho} {x : D} (h : body (as.map some ++ List.replicate (n - as.length) none) W = .ok (.rt (.d x)) ρ W') : runF n body as W = .ok (.d x) (W'.take W.length) := by
  unfold runF
  rw [h]
  simp only [finF_d]
theorem sortedD_l {l z : List D} (h : sortL l = some z) : sortedD (.lst l) = some (.lst z) := by
  unfold sortedD
  rw [show iterOf (.lst l) = some l from rfl, Option.bind_some, h]; rfl
theorem sortedD_t {l z : List D} (h : sortL l = some z) : sortedD (.tup l) = some (.lst z) := by
  unfold sortedD
  rw [show iterOf (.tup l) = some l from rfl, Option.bind_some, h]; rfl
theorem rngD_mem {a b : Int} {d : D} (h : d ∈ rngD a b) : ∃ i : Int, d = .int i ∧ a ≤ i ∧ i < b := by
  unfold rngD at h
  obtain ⟨k, hk, rfl⟩ := List.mem_map.mp h
  have := List.mem_range.mp hk
  exact ⟨_, rfl, by omega, by omega⟩
theorem mul_ok {a b : Int} (h : b.natAbs ≤ 1000000000000000000) : mulS (.int a) (.int b) = some (.int (a * b)) := if_pos (CMulD_r h)
theorem mul_okl {a b : Int} (h : a.natAbs ≤ 1000000000000000000) : mulS (.int a) (.int b) = some (.int (a * b)) := if_pos (CMulD_l h)
theorem lenD_lm {α : Type} (F : α → D) (l : List α) : lenD (.lst (l.map F)) = some (.int l.length) := by rw [lenD_l, List.length_map]
theorem lenD_tm {α : Type} (F : α → D) (l : List α) : lenD (.tup (l.map F)) = some (.int l.length) := by rw [lenD_t, List.length_map]
theorem take_self (W : List O) : W.take W.length = W := List.take_length
theorem RowOk.take {s : List Int} {W W' : List O} (h : RowOk s W) (h' : RowOk s W') : W'.take W.length = W' := by
  obtain ⟨_, _, _, rfl, _⟩ := h
  obtain ⟨_, _, _, rfl, _⟩ := h'
  rfl
end VL
set_option Elab.async false
set_option linter.all false
set_option maxRecDepth 100000
set_option maxHeartbeats 4000000
namespace VL
open PySem PySem.Spec PyProof.Rows L2
section
variable {G : Gm} {X : Cx} {k : Nat} {Wx : WX}
/-! ### max, min of a list of ints -/
def max1D (a : D) : Option D := match a with
  | .lst ds => (intsOf ds).bind fun bs => bs.max?.map .int
  | _ => none
def min1D (a : D) : Option D := match a with
  | .lst ds => (intsOf ds).bind fun bs => bs.min?.map .int
  | _ => none
theorem cs_max1 (vc : VC G X k Wx) : CallS G X (.builtin "max") (one max1D) := cs_one (cr_max vc.calm) fun w v a z Q gd r e wn => by
  unfold max1D at e
  split at e
  · obtain ⟨bs, e1, e2⟩ := Option.bind_eq_some_iff.mp e
    obtain ⟨m, e3, rfl⟩ := Option.map_eq_some_iff.mp e2
    obtain ⟨p, vs, rfl, h, q⟩ := r
    rw [ints_rep q e1] at h
    have hne : bs ≠ [] := fun z => by rw [z] at e3; cases e3
    refine ⟨p, bs, rfl, .of h, List.length_pos_iff.mpr hne, fun m' h1 h2 => ?_⟩
    have e4 : bs.max? = some m' := List.max?_eq_some_iff.mpr ⟨h1, h2⟩
    rw [e3] at e4
    obtain rfl := Option.some.inj e4
    exact wn.here (v := V.int _) gd rfl
  · cases e
theorem cs_min1 (vc : VC G X k Wx) : CallS G X (.builtin "min") (one min1D) := cs_one (cr_min vc.calm) fun w v a z Q gd r e wn => by
  unfold min1D at e
  split at e
  · obtain ⟨bs, e1, e2⟩ := Option.bind_eq_some_iff.mp e
    obtain ⟨m, e3, rfl⟩ := Option.map_eq_some_iff.mp e2
    obtain ⟨p, vs, rfl, h, q⟩ := r
    rw [ints_rep q e1] at h
    have hne : bs ≠ [] := fun z => by rw [z] at e3; cases e3
    refine ⟨p, bs, rfl, .of h, List.length_pos_iff.mpr hne, fun m' h1 h2 => ?_⟩
    have e4 : bs.min? = some m' := List.min?_eq_some_iff.mpr ⟨h1, h2⟩
    rw [e3] at e4
    obtain rfl := Option.some.inj e4
    exact wn.here (v := V.int _) gd rfl
  · cases e
/-! ### o.extend(l) -/
def mExtend (o : Vl) (as : List Vl) (W : List O) : Res Vl := match o, as with
  | .o j, [.d (.lst zs)] => match W[j]? with
    | some (.lst ds) => if ds.length + zs.length ≤ sizeLine then putL j (ds ++ zs) .non W else .bad
    | _ => .bad
  | _, _ => .bad
theorem ms_extend : MthS G X "list.extend" mExtend := ⟨_, mt_extend, fun Wx σ w o as ov vs Q g r rs p => by
  unfold mExtend at p
  split at p
  · rename_i j zs
    split at p
    · rename_i ds e
      split at p
      · rename_i hz
        obtain ⟨v, r', rfl, rv, rfl⟩ := rs
        obtain ⟨b, us, rfl, hb, q⟩ := rv
        obtain ⟨_, vs, h1, h2⟩ := g.ob j _ e rfl
        exact ⟨w.μ j, b, vs, us, r.2, rfl, h1, g.shN hb rfl, by rw [h2.length, q.length]; exact hz, put_list g e (h2.append q) (d := .non) (v := V.non) rfl p⟩
      · exact p.elim
    · exact p.elim
  · exact p.elim⟩
/-! ### [.., *e] -/
def aStar (f : VL.Sem Vl) (fs : VL.Sem (List Vl)) : VL.Sem (List Vl) := fun ρ W => (f ρ W).bind fun d W1 => match d with
  | .d (.lst xs) => (fs ρ W1).bind fun ds W2 => .ok (xs.map .d ++ ds) W2
  | .d (.tup xs) => (fs ρ W1).bind fun ds W2 => .ok (xs.map .d ++ ds) W2
  | _ => .bad
theorem repVs_app {w : Wd} : ∀ {xs : List D} {us : List V} {ds : List Vl} {vs : List V}, Reps G w xs us → RepVs G w ds vs → RepVs G w (xs.map .d ++ ds) (us ++ vs)
  | [], us, ds, vs, h, h2 => by obtain rfl := h; exact h2
  | x :: xs, us, ds, vs, h, h2 => by
    obtain ⟨v, r, rfl, h1, hr⟩ := h
    exact ⟨v, r ++ vs, rfl, h1, repVs_app hr h2⟩
theorem sa_star (vc : VC G X k Wx) {e : Expr} {es : List Expr} {f : VL.Sem Vl} {fs : VL.Sem (List Vl)} {p : Pos} (h : SE G X Wx e f) (hs : SA G X Wx es fs) (hst : starEach (.Starred e p :: es) X.env = (true, eval e X.env) :: starEach es X.env := by rfl) :
    SA G X Wx (.Starred e p :: es) (aStar f fs) := by
  refine PA.imp (StX.pa_star h hs hst) fun σ H Q hh => ?_
  refine (tV.bind (R := RepV G) hh).elim fun w hw => ⟨w, ?_⟩
  obtain ⟨ρ, e, g, er, p⟩ := hw
  refine ⟨ρ, e, g, er, p.mono fun v H1 hq => ?_⟩
  obtain ⟨w1, a, ρ1, rfl, g1, er1, r1, p1⟩ := hq
  split at p1
  · rename_i xs
    obtain ⟨b, us, rfl, hb, q⟩ := r1
    refine ⟨b, us, rfl, .inr (.of (g1.shN hb rfl)), w1, ρ1, rfl, g1, er1, (Post.bind (R := RepVs G) p1).mono fun vs H2 hq2 => ?_⟩
    obtain ⟨w2, ds, rfl, l2, g2, r2, p2⟩ := hq2
    exact p2.ret (b := us ++ vs) g2 (repVs_app (Reps.mono l2 _ _ q) r2)
  · rename_i xs
    obtain ⟨b, us, rfl, hb, q⟩ := r1
    refine ⟨b, us, rfl, .inl (.of (g1.shN hb rfl)), w1, ρ1, rfl, g1, er1, (Post.bind (R := RepVs G) p1).mono fun vs H2 hq2 => ?_⟩
    obtain ⟨w2, ds, rfl, l2, g2, r2, p2⟩ := hq2
    exact p2.ret (b := us ++ vs) g2 (repVs_app (Reps.mono l2 _ _ q) r2)
  · exact p1.elim
end
end VL
set_option Elab.async false
set_option linter.all false
set_option maxRecDepth 100000
set_option maxHeartbeats 4000000
namespace VL
open PySem PySem.Spec PyProof.Rows L2
section
variable {G : Gm} {X : Cx} {k : Nat} {Wx : WX} {w : Wd}
/-! ### a, b = x, y where a tuple is made; the values may be objects -/
def setAll : Rho → List Nat → List Vl → Rho
  | ρ, i :: is, d :: ds => setAll (ρ.set i (some d)) is ds
  | ρ, _, _ => ρ
def sTupO (is : List Nat) (f : VL.Sem (List Vl)) : SemS := fun ρ W => liftS (f ρ W) ρ fun ds W1 => if ds.length = is.length ∧ ds.length ≤ sizeLine then .ok .nx (setAll ρ is ds) W1 else .bad
theorem gnm_rd {K : PySem.W.Frag} : ∀ (is : List Nat) (ds : List Vl) (vs : List V) (ρ : Rho) (σ : L2.St) (Q : L2.St → Hp → Prop), RepVs G w ds vs → ds.length = is.length → ER G w ρ σ →
    (∀ σ', ER G w (setAll ρ is ds) σ' → Q σ' w.H) → gRds K (is.map .nm) vs σ w.H Q
  | [], [], vs, ρ, σ, Q, r, _, er, h => by
    show gRds K [] vs σ w.H Q
    unfold gRds
    exact ⟨r, h σ er⟩
  | i :: is, d :: ds, vs, ρ, σ, Q, r, e, er, h => by
    obtain ⟨v, vr, rfl, r1, r2⟩ := r
    show gRds K (.nm i :: is.map .nm) _ σ w.H Q
    unfold gRds
    refine ⟨v, vr, rfl, ?_⟩
    unfold gRd
    exact gnm_rd is ds vr _ _ Q r2 (by simpa using e) (er.set r1) h
  | [], _ :: _, _, _, _, _, _, e, _, _ => by cases e
  | _ :: _, [], _, _, _, _, _, e, _, _ => by cases e
theorem ss_tupO {is : List Nat} {tg : Expr} {es : List Expr} {f : VL.Sem (List Vl)} {x1} {pe pos : Pos} (h : SA G X Wx es f) (hg : SG X tg (.tp (is.map .nm))) (hs : swapsWithSole [tg] (.Tuple es x1 pe) pos.line X.env = pure false := by rfl) (hw : swappedStores [tg] (.Tuple es x1 pe) X.env = pure none := by rfl)
    (h1 : (assignEach [tg] X.env).map (·.2) = [assign tg X.env] := by rfl) : SS G X Wx (.Assign [tg] (.Tuple es x1 pe) pos) (sTupO is f) :=
  PS.imp (ps_asg (pe_tup h) hg hs hw h1) fun D σ H hh => lift1 (R := RepVs G) hh fun ρ w v a g er r p => by
    split at p
    · rename_i hl
      refine ⟨by rw [r.length]; exact hl.2, fun b hb => ?_⟩
      have g' := good_new (o := .tup v) g hb (fun _ z => by cases z)
      have l' := le_new (o := .tup v) g hb
      unfold gRd
      refine ⟨b, v, rfl, .of upd_same, by rw [r.length, hl.1, List.length_map], ?_⟩
      exact gnm_rd (w := w.new b (.tup v)) is a v ρ σ _ (RepVs.mono l' _ _ r) hl.1 (er.mono l') fun σ' er' => (PostS.le p l').nx g' er'
    · exact p.elim
theorem sTupO_ok {is : List Nat} {f : VL.Sem (List Vl)} {ρ : Rho} {W W1 : List O} {ds : List Vl} (h : f ρ W = .ok ds W1) (hl : ds.length = is.length) (h2 : ds.length ≤ 1000) : sTupO is f ρ W = .ok .nx (setAll ρ is ds) W1 := by
  unfold sTupO
  rw [h, liftS_ok, if_pos ⟨hl, by rw [sizeLine_eq]; omega⟩]
end
/-! ### the row, ahead of other objects -/
abbrev RWE (s : List Int) (p sd r : Int) (E : List O) : List O := .lst [.scr s, .int p, .int sd, .int r] :: E
def RowE (s : List Int) (E W : List O) : Prop := ∃ p sd r : Int, W = RWE s p sd r E ∧ 0 ≤ p ∧ 0 ≤ sd ∧ sd ≤ 2147483647
theorem RowE.len {s : List Int} {E W : List O} (h : RowE s E W) : W.length = E.length + 1 := by
  obtain ⟨_, _, _, rfl, _⟩ := h; simp
theorem RowE.take {s : List Int} {E W W' : List O} (h : RowE s E W) (h' : RowE s E W') : W'.take W.length = W' := by
  rw [h.len, ← h'.len, List.take_length]
theorem RowE.row0 (ns : List Int) (sd : Int) (h : 0 ≤ sd ∧ sd ≤ 2147483647) : RowE ns [] (RWE ns 0 sd 0 []) := ⟨0, sd, 0, rfl, by omega, h⟩
/-- the first object after the row is changed -/
theorem RowE.set1 {s : List Int} {x y : O} {E W : List O} (h : RowE s (x :: E) W) : RowE s (y :: E) (W.set 1 y) := by
  obtain ⟨p, sd, r, rfl, h⟩ := h
  exact ⟨p, sd, r, rfl, h⟩
theorem RowE.get1 {s : List Int} {x : O} {E W : List O} (h : RowE s (x :: E) W) : W[1]? = some x := by
  obtain ⟨p, sd, r, rfl, h⟩ := h; rfl
theorem RowE.app {s : List Int} {E W : List O} (h : RowE s E W) (x : O) : RowE s (E ++ [x]) (W ++ [x]) := by
  obtain ⟨p, sd, r, rfl, h⟩ := h
  exact ⟨p, sd, r, rfl, h⟩
/-! ### comprehensions that filter a mapped list -/
theorem lc_filterm {α : Type} {p : TgP} {t : VL.Sem Bool} {f : VL.Sem Vl} {ρ : Rho} {W : List O} (F : α → D) (b : α → Rho) (q : α → Bool) (g : α → D) : ∀ l : List α, (∀ a ∈ l, bindP p (F a) ρ = some (b a) ∧ t (b a) W = .ok (q a) W ∧ (q a = true → f (b a) W = .ok (.d (g a)) W)) → lcL p t f ρ (l.map F) W = .ok ((l.filter q).map g) W
  | [], _ => rfl
  | a :: l, h => by
    obtain ⟨h1, h2, h3⟩ := h a List.mem_cons_self
    have ih := lc_filterm F b q g l fun x hx => h x (List.mem_cons_of_mem _ hx)
    rw [List.map_cons]
    unfold lcL
    rw [h1]
    simp only [bind_ok, h2]
    cases hq : q a with
    | false => rw [List.filter_cons_of_neg (by rw [hq]; decide)]; simpa using ih
    | true => rw [List.filter_cons_of_pos hq]; simp only [if_true, h3 hq, bind_ok, pureD_d, ih, List.map_cons]
theorem eLc_ok {own : List Nat} {p : TgP} {fi : VL.Sem (List D)} {t : VL.Sem Bool} {f : VL.Sem Vl} {ρ : Rho} {W W1 W2 : List O} {ds ys : List D} (h : fi ρ W = .ok ds W1) (h2 : lcL p t f (wipeR ρ own) ds W1 = .ok ys W2) (hl : ds.length ≤ sizeLine) : eLc own p fi t f ρ W = .ok (.d (.lst ys)) W2 := by
  rw [eLc_s, h, bind_ok, h2, noX_ok, bind_ok, if_pos hl]
theorem anyD_m {α : Type} (f : α → Bool) (l : List α) : anyD (.lst (l.map fun a => .bl (f a))) = some (.bl (l.any f)) := by
  show (blsOf _).map _ = _
  rw [blsOf_m, Option.map_some, List.any_map]
  rfl
theorem allD_m {α : Type} (f : α → Bool) (l : List α) : allD (.lst (l.map fun a => .bl (f a))) = some (.bl (l.all f)) := by
  show (blsOf _).map _ = _
  rw [blsOf_m, Option.map_some, List.all_map]
  rfl
theorem rngD_nat {j : Int} (h : 0 ≤ j) : rngD 0 j = (rngI j.toNat).map .int := by
  rw [← rngD_eq, show ((j.toNat : Nat) : Int) = j by omega]
/-! ### sorted, by data -/
theorem sortL_of {α : Type} (F : α → D) (P : α → PyData) {l : List α} (hF : ∀ a ∈ l, toPy (F a) = some (P a)) (hal : ∀ a ∈ l, ∀ b ∈ l, PySem.W.alike (P a) (P b) = true) (hs : 2 ≤ l.length → sortableB (l.map P) = true) (hd : ∀ a ∈ l, (P a).depth ≤ 60) (hl : l.length ≤ sizeLine) :
    ∃ zs : List α, sortL (l.map F) = some (zs.map F) ∧ zs.Perm l ∧ zs.Pairwise fun a b => PySem.W.dataLt (P b) (P a) = false := by
  unfold sortL
  split
  · rename_i h2
    rw [List.length_map] at h2
    refine ⟨l, rfl, List.Perm.refl _, ?_⟩
    match l, h2 with
    | [], _ => exact List.Pairwise.nil
    | [_], _ => exact List.pairwise_singleton _ _
  · rename_i h2
    rw [List.length_map] at h2
    have hp : ∀ a ∈ l, pyOf (F a) = P a := fun a ha => by unfold pyOf; rw [hF a ha]; rfl
    have em : (l.map F).map pyOf = l.map P := by
      rw [List.map_map]; exact List.map_congr_left hp
    rw [if_pos]
    · have tt := PySem.W.sortLe_total (listOrd itemOrd) false fun a : α => PySem.W.keyToks (P a)
      refine ⟨l.mergeSort (PySem.W.sortLe (listOrd itemOrd) false fun a : α => PySem.W.keyToks (P a)), ?_, List.mergeSort_perm _ _, ?_⟩
      · congr 1
        refine (List.map_mergeSort (r := PySem.W.sortLe (listOrd itemOrd) false fun a : α => PySem.W.keyToks (P a)) (s := PySem.W.dataLe false pyOf) (f := F) (l := l) (fun a ha b hb => ?_)).symm
        show PySem.W.sortLe _ _ _ _ _ = PySem.W.sortLe _ _ _ _ _
        unfold PySem.W.sortLe
        simp only [hp a ha, hp b hb]
      · refine (List.pairwise_mergeSort (fun a b c => tt.trans a b c) (fun a b => Bool.or_eq_true _ _ ▸ tt.total a b) l).imp fun {a b} h => ?_
        have h' : (!PySem.W.dataLt (P b) (P a)) = true := h
        simpa using h'
    · refine ⟨?_, ?_, ?_, ?_, by rw [List.length_map]; exact hl⟩
      · rw [List.all_map]
        exact List.all_eq_true.mpr fun a ha => by show (toPy (F a)).isSome = true; rw [hF a ha]; rfl
      · unfold alikeB
        rw [em, List.all_map]
        refine List.all_eq_true.mpr fun a ha => ?_
        show (l.map P).all _ = true
        rw [List.all_map]
        exact List.all_eq_true.mpr fun b hb => hal a ha b hb
      · rw [em]; exact hs (by omega)
      · rw [List.all_map]
        exact List.all_eq_true.mpr fun a ha => by
          show decide ((pyOf (F a)).depth ≤ 60) = true
          rw [hp a ha]; exact decide_eq_true (hd a ha)
/-! ### tuples of ints, in order -/
theorem toks_inj : ∀ {a b : List Int}, PySem.W.keyToksAll (a.map .int) = PySem.W.keyToksAll (b.map .int) → a = b
  | [], [], _ => rfl
  | [], y :: b, h => by simp [PySem.W.keyToksAll] at h
  | x :: a, [], h => by simp [PySem.W.keyToksAll] at h
  | x :: a, y :: b, h => by
    simp [PySem.W.keyToksAll, PySem.W.keyToks] at h
    rw [h.1, toks_inj h.2]
theorem lt_anti {a b : List Int} (h1 : PySem.W.dataLt (.tuple (a.map .int)) (.tuple (b.map .int)) = false) (h2 : PySem.W.dataLt (.tuple (b.map .int)) (.tuple (a.map .int)) = false) : a = b := by
  have := (listOrd itemOrd).total (PySem.W.keyToksAll (a.map .int)) (PySem.W.keyToksAll (b.map .int)) h1 h2
  exact toks_inj this
theorem lt_irr (x : PyData) : PySem.W.dataLt x x = false := (listOrd itemOrd).irrefl _
theorem lt_cons (n m : Int) (xs ys : List PyData) : PySem.W.dataLt (.tuple (.int n :: xs)) (.tuple (.int m :: ys)) = (decide (n < m) || (decide (n = m) && PySem.W.dataLt (.tuple xs) (.tuple ys))) := by
  unfold PySem.W.dataLt
  simp only [PySem.W.keyToks, PySem.W.keyToksAll, List.cons_append, List.nil_append]
  rw [lex_cons, lex_cons]
  by_cases h : n = m
  · subst h; simp [itemOrd, itemLt]
  · by_cases h2 : n < m
    · simp [itemOrd, itemLt, h, h2]
    · have h3 : m < n := by omega
      simp [itemOrd, itemLt, h, h2, h3]
theorem lt_tup1 {a b : List PyData} (h : PySem.W.alikeAll a b = true) : PySem.W.dataLt (.tuple [.tuple a]) (.tuple [.tuple b]) = PySem.W.dataLt (.tuple a) (.tuple b) := by
  unfold PySem.W.dataLt
  simp only [PySem.W.keyToks, PySem.W.keyToksAll]
  rw [lex_cons]
  have t := PySem.W.toksAll_eqv a b h
  cases e : PyData.eqvAll a b with
  | true =>
    rw [t.1 e]
    simp [itemOrd, itemLt]
    exact ((listOrd itemOrd).irrefl _).trans ((listOrd itemOrd).irrefl _).symm
  | false =>
    have := t.2 e [.inl 0] [.inl 0]
    simp only [this]
    simp [itemOrd, itemLt]
/-- sorted tuples of ints, the first of them empty, or all of them not -/
theorem sortL_tupsP {l : List (List Int)} (hl : l.length ≤ sizeLine) (h : 2 ≤ l.length → (∀ a ∈ l, a ≠ []) ∨ ∃ r, l = [] :: r) : ∃ zs : List (List Int), sortL (l.map fun a => .tup (a.map .int)) = some (zs.map fun a => .tup (a.map .int)) ∧ zs.Perm l ∧
    zs.Pairwise fun a b => PySem.W.dataLt (.tuple (b.map .int)) (.tuple (a.map .int)) = false := by
  refine sortL_of (fun a : List Int => D.tup (a.map .int)) (fun a => .tuple (a.map .int)) (fun a _ => toPy_tints a) (fun a _ b _ => ?_) (fun h2 => ?_) (fun a _ => by rw [(depth_ints a).2]; omega) hl
  · unfold PySem.W.alike; exact alikeAll_ints a b
  · unfold sortableB
    rcases h h2 with h | ⟨r, rfl⟩
    · rw [Bool.or_eq_true, Bool.or_eq_true]
      left; left
      rw [List.all_map]
      refine List.all_eq_true.mpr fun a ha => ?_
      match a, h a ha with
      | x :: a, _ => rfl
    · rw [Bool.or_eq_true]
      right
      show (r.map fun a => PyData.tuple (a.map .int)).all isTupB = true
      rw [List.all_map]
      exact List.all_eq_true.mpr fun _ _ => rfl
/-- sorted pairs of a number and a tuple of ints -/
theorem sortL_szs {l : List (List Int)} (hl : l.length ≤ sizeLine) : ∃ zs : List (List Int), sortL (l.map fun a => .tup [.int a.length, .tup (a.map .int)]) = some (zs.map fun a => .tup [.int a.length, .tup (a.map .int)]) ∧ zs.Perm l ∧
    zs.Pairwise fun a b => a.length ≤ b.length ∧ (a.length = b.length → PySem.W.dataLt (.tuple (b.map .int)) (.tuple (a.map .int)) = false) := by
  obtain ⟨zs, h1, h2, h3⟩ := sortL_of (l := l) (fun a : List Int => D.tup [.int a.length, .tup (a.map .int)]) (fun a => .tuple [.int a.length, .tuple (a.map .int)]) (fun a _ => by
      show (match toPy (.int (a.length : Int)), toPyL [D.tup (a.map .int)] with | some p, some ps => some (p :: ps) | _, _ => none).map PyData.tuple = _
      show (match toPy (.int (a.length : Int)), (match toPy (D.tup (a.map .int)), toPyL [] with | some p, some ps => some (p :: ps) | _, _ => none) with | some p, some ps => some (p :: ps) | _, _ => none).map PyData.tuple = _
      rw [toPy_tints]; rfl) (fun a _ b _ => by simp [PySem.W.alike, PySem.W.alikeAll, alikeAll_ints]) (fun _ => by
        unfold sortableB
        rw [Bool.or_eq_true, Bool.or_eq_true]
        left; left
        rw [List.all_map]
        exact List.all_eq_true.mpr fun _ _ => rfl) (fun a _ => by
          have := (depth_ints a).2
          simp [PyData.depth, PyData.depthAll] at this ⊢
          omega) hl
  refine ⟨zs, h1, h2, h3.imp fun {a b} h => ?_⟩
  rw [lt_cons, lt_tup1 (alikeAll_ints _ _)] at h
  rw [Bool.or_eq_false_iff] at h
  refine ⟨by have := of_decide_eq_false h.1; omega, fun e => ?_⟩
  have h2 := h.2
  rw [decide_eq_true (show ((b.length : Nat) : Int) = a.length by omega), Bool.true_and] at h2
  exact h2
end VL
set_option Elab.async false
set_option linter.all false
set_option maxRecDepth 100000
set_option maxHeartbeats 4000000
namespace VL
open PySem PySem.Spec PyProof.Rows L2
/-! ### more steps: objects, loops -/
section
variable {ρ ρ1 : Rho} {W W1 W2 : List O}
theorem cont_o {j : Nat} {ds : List D} (h : W[j]? = some (.lst ds)) : cont W (.o j) = some (.lst ds) := by unfold cont; simp only [h]
theorem cont_end {ds : List D} : cont (W ++ [.lst ds]) (.o W.length) = some (.lst ds) := cont_o (by simp)
theorem get_end {x : O} : (W ++ [x])[W.length]? = some x := by simp
theorem eBin_c {g : D → D → Option D} {fa fb : VL.Sem Vl} {v u : Vl} {x y z : D} (h1 : fa ρ W = .ok v W1) (h2 : fb ρ W1 = .ok u W2) (c1 : cont W2 v = some x) (c2 : cont W2 u = some y) (hz : g x y = some z) : eBin g fa fb ρ W = .ok (.d z) W2 := by
  rw [eBin_s, h1, bind_ok, h2, bind_ok]
  unfold on2
  rw [c1, c2, Option.bind_some, Option.bind_some, hz]; rfl
theorem eCall_1c {g : D → Option D} {f : VL.Sem Vl} {v : Vl} {x z : D} (h : f ρ W = .ok v W1) (c : cont W1 v = some x) (hz : g x = some z) : eCall (one g) (aCons f aNil) ρ W = .ok (.d z) W1 := by
  rw [eCall_s, aCons_s, h, bind_ok, aNil_s, bind_ok, bind_ok]
  unfold onL
  rw [show conts W1 [v] = some [x] by unfold conts; rw [c]; rfl, Option.bind_some]
  rw [show one g [x] = g x from rfl, hz]; rfl
theorem tTru1_c {f : VL.Sem Vl} {v : Vl} {x : D} {b : Bool} (h : f ρ W = .ok v W1) (c : cont W1 v = some x) (hb : truD x = some b) : tTru1 f ρ W = .ok b W1 := by
  rw [tTru1_s, h, bind_ok, c, Option.bind_some, hb]; rfl
theorem newL_ok : eLstO aNil ρ W = .ok (.o W.length) (W ++ [.lst []]) := by
  rw [eLstO_s, aNil_s, bind_ok, mkObjL_s (ds := []) rfl (by simp)]
theorem newL1_ok {f : VL.Sem Vl} {x : D} (h : f ρ W = .ok (.d x) W1) : eLstO (aCons f aNil) ρ W = .ok (.o W1.length) (W1 ++ [.lst [x]]) := by
  rw [eLstO_s, a1_ok h, bind_ok, mkObjL_s (ds := [x]) rfl (by simp)]
theorem app_ok {fo fe : VL.Sem Vl} {j : Nat} {ds : List D} {d : D} (h1 : fo ρ W = .ok (.o j) W1) (h2 : fe ρ W1 = .ok (.d d) W2) (h0 : ∃ ds, W1[j]? = some (.lst ds)) (h3 : W2[j]? = some (.lst ds)) (h4 : ds.length < 1000000) : eMeth isL mAppend fo (aCons fe aNil) ρ W = .ok (.d .non) (W2.set j (.lst (ds ++ [d]))) := by
  rw [eMeth_s, h1, bind_ok]
  obtain ⟨d0, h0⟩ := h0
  have : isL (.o j) W1 = true := by unfold isL cont; simp only [h0]
  rw [if_pos this, a1_ok h2, bind_ok]
  unfold mAppend
  simp only [h3]
  rw [if_pos (by rw [sizeLine_eq]; omega)]
  rfl
theorem ext_ok {fo fe : VL.Sem Vl} {j : Nat} {ds zs : List D} (h1 : fo ρ W = .ok (.o j) W1) (h2 : fe ρ W1 = .ok (.d (.lst zs)) W2) (h0 : ∃ ds, W1[j]? = some (.lst ds)) (h3 : W2[j]? = some (.lst ds)) (h4 : ds.length + zs.length < 1000000) : eMeth isL mExtend fo (aCons fe aNil) ρ W = .ok (.d .non) (W2.set j (.lst (ds ++ zs))) := by
  rw [eMeth_s, h1, bind_ok]
  obtain ⟨d0, h0⟩ := h0
  have : isL (.o j) W1 = true := by unfold isL cont; simp only [h0]
  rw [if_pos this, a1_ok h2, bind_ok]
  unfold mExtend
  simp only [h3]
  rw [if_pos (by rw [sizeLine_eq]; omega)]
  rfl
theorem pureL_m : ∀ xs : List D, pureL (xs.map Vl.d) = some xs
  | [] => rfl
  | x :: xs => by
    rw [List.map_cons]
    unfold pureL
    simp only [pureD_d, pureL_m xs]
theorem aStar_t {f : VL.Sem Vl} {fs : VL.Sem (List Vl)} {xs : List D} {ds : List Vl} (h : f ρ W = .ok (.d (.tup xs)) W1) (h2 : fs ρ W1 = .ok ds W2) : aStar f fs ρ W = .ok (xs.map .d ++ ds) W2 := by
  unfold aStar
  rw [h, bind_ok]
  simp only [h2, bind_ok]
theorem chain_lelt {fa fb fc : VL.Sem Vl} {a b c : Int} (ha : fa ρ W = .ok (.d (.int a)) W) (hb : fb ρ W = .ok (.d (.int b)) W) (hc : fc ρ W = .ok (.d (.int c)) W) : eChain leS ltS fa fb fc ρ W = .ok (.d (.bl (decide (a ≤ b) && decide (b < c)))) W := by
  rw [eChain_s, ha, bind_ok, hb, bind_ok, on2_d, leS_int]
  by_cases h : a ≤ b <;> simp [h, ofO, hc]
theorem chain_lele {fa fb fc : VL.Sem Vl} {a b c : Int} (ha : fa ρ W = .ok (.d (.int a)) W) (hb : fb ρ W = .ok (.d (.int b)) W) (hc : fc ρ W = .ok (.d (.int c)) W) : eChain leS leS fa fb fc ρ W = .ok (.d (.bl (decide (a ≤ b) && decide (b ≤ c)))) W := by
  rw [eChain_s, ha, bind_ok, hb, bind_ok, on2_d, leS_int]
  by_cases h : a ≤ b <;> simp [h, ofO, hc]
end
theorem intsOf_m : ∀ l : List Int, intsOf (l.map .int) = some l
  | [] => rfl
  | x :: l => by
    show (intsOf (l.map .int)).map (x :: ·) = _
    rw [intsOf_m l]; rfl
theorem max1_m {l : List Int} {m : Int} (h : l.max? = some m) : max1D (.lst (l.map .int)) = some (.int m) := by
  show (intsOf _).bind _ = _
  rw [intsOf_m, Option.bind_some, h]; rfl
theorem min1_m {l : List Int} {m : Int} (h : l.min? = some m) : min1D (.lst (l.map .int)) = some (.int m) := by
  show (intsOf _).bind _ = _
  rw [intsOf_m, Option.bind_some, h]; rfl
theorem sumD_m (l : List Int) : sumD (.lst (l.map .int)) = some (.int l.sum) := by
  show (intsOf _).map _ = _
  rw [intsOf_m]; rfl
theorem runF_obj {n : Nat} {body : SemS} {as : List Vl} {W : List O} {ρ : Rho} {ds : List D} (h : body (as.map some ++ List.replicate (n - as.length) none) W = .ok (.rt (.o W.length)) ρ (W ++ [.lst ds])) : runF n body as W = .ok (.d (.lst ds)) W := by
  unfold runF
  rw [h]
  simp [finF, frzO]
theorem runF_cut {n : Nat} {body : SemS} {as : List Vl} {W E : List O} {ρ : Rho} {x : D} (h : body (as.map some ++ List.replicate (n - as.length) none) W = .ok (.rt (.d x)) ρ (W ++ E)) : runF n body as W = .ok (.d x) W := by
  unfold runF
  rw [h]
  simp [finF]
theorem frz_seq (i : Nat) (f : SemS) : sFrz i f = sSeq (sFrz i sNx) f := by
  funext ρ W
  rw [sSeq_s]
  unfold sFrz
  split
  · split
    · split
      · rfl
      · rfl
    · rfl
  · rfl
theorem sFrz_ok {ρ : Rho} {W : List O} {i j : Nat} {ds : List D} (h : ρ[i]? = some (some (.o j))) (h2 : W[j]? = some (.lst ds)) : sFrz i sNx ρ W = .ok .nx (ρ.set i (some (.d (.lst ds)))) (W.set j .dead) := by
  unfold sFrz
  simp only [h, h2, frzO]
  rfl
/-- a loop, place by place -/
theorem for_idx {p : TgP} {body : SemS} {I : Nat → Rho → List O → Prop} : ∀ (ds : List D) (k : Nat) (ρ : Rho) (W : List O), I k ρ W → (∀ i (h : i < ds.length) ρ W, I (k + i) ρ W → ∃ b ρ' W', bindP p ds[i] ρ = some b ∧ body b W = .ok .nx ρ' W' ∧ I (k + i + 1) ρ' W') →
    ∃ ρ' W', forL p body ds ρ W = .ok .nx ρ' W' ∧ I (k + ds.length) ρ' W'
  | [], k, ρ, W, h, _ => ⟨ρ, W, rfl, h⟩
  | d :: ds, k, ρ, W, h, hb => by
    obtain ⟨b, ρ', W', e1, e2, h'⟩ := hb 0 (Nat.zero_lt_succ _) ρ W h
    obtain ⟨ρ2, W2, e3, h2⟩ := for_idx ds (k + 1) ρ' W' h' fun i hi ρ W hI => by
      obtain ⟨b, ρ', W', q1, q2, q3⟩ := hb (i + 1) (Nat.succ_lt_succ hi) ρ W (by rw [show k + (i + 1) = k + 1 + i by omega]; exact hI)
      exact ⟨b, ρ', W', q1, q2, by rw [show k + 1 + i + 1 = k + (i + 1) + 1 by omega]; exact q3⟩
    refine ⟨ρ2, W2, ?_, by rw [List.length_cons, show k + (ds.length + 1) = k + 1 + ds.length by omega]; exact h2⟩
    rw [forL_cons (show bindP p d ρ = some b from e1), e2, sbind_ok]
    exact e3
/-- a loop that ends with the first thing of a kind -/
theorem for_first {α : Type} (F : α → D) {p : TgP} {body : SemS} {W : List O} {I : Rho → Prop} (P : α → Bool) (r : α → Vl) : ∀ (l : List α) (ρ : Rho), I ρ → (∀ a ∈ l, ∀ ρ, I ρ → ∃ b ρ', bindP p (F a) ρ = some b ∧ I ρ' ∧ body b W = .ok (if P a then .rt (r a) else .nx) ρ' W) →
    ∃ ρ', I ρ' ∧ forL p body (l.map F) ρ W = .ok (match l.find? P with | some a => .rt (r a) | none => .nx) ρ' W
  | [], ρ, h, _ => ⟨ρ, h, rfl⟩
  | a :: l, ρ, h, hb => by
    obtain ⟨b, ρ', e1, h', e2⟩ := hb a List.mem_cons_self ρ h
    rw [List.map_cons, forL_cons e1, e2, sbind_ok]
    cases hp : P a with
    | true => exact ⟨ρ', h', by rw [List.find?_cons_of_pos hp]; rfl⟩
    | false =>
      obtain ⟨ρ2, h2, e3⟩ := for_first F P r l ρ' h' fun x hx => hb x (List.mem_cons_of_mem _ hx)
      refine ⟨ρ2, h2, ?_⟩
      rw [List.find?_cons_of_neg (by rw [hp]; exact Bool.false_ne_true)]
      exact e3
theorem rngI_at {n i : Nat} (h : i < ((rngI n).map D.int).length) : ((rngI n).map D.int)[i] = .int i := by
  unfold rngI
  simp
theorem atI_last {α : Type} (l : List α) (x : α) : atI (l ++ [x]) (-1) = some x := by
  unfold atI ixN
  simp
  rw [if_pos (by omega), Option.bind_some, show (-1 + ((l.length : Int) + 1)).toNat = l.length by omega]
  simp
end VL
set_option Elab.async false
set_option linter.all false
set_option maxRecDepth 100000
set_option maxHeartbeats 4000000
namespace VL
open PySem PySem.Spec PyProof.Rows L2
/-! ### the head's table of classes -/
def caOf (cs : List (Nat × Addr)) (i : Nat) : Addr := match cs.lookup i with
  | some C => C
  | none => (cs.map (·.2)).sum + 1
theorem mem_lookup {α β : Type} [BEq α] [LawfulBEq α] {a : α} {b : β} : ∀ {l : List (α × β)}, l.lookup a = some b → (a, b) ∈ l
  | (x, y) :: l, h => by
    rw [List.lookup_cons] at h
    cases hx : a == x with
    | true =>
      rw [hx] at h
      obtain rfl := eq_of_beq hx
      obtain rfl := Option.some.inj h
      exact List.mem_cons_self
    | false =>
      rw [hx] at h
      exact List.mem_cons_of_mem _ (mem_lookup h)
theorem nd_snd {cs : List (Nat × Addr)} : (cs.map (·.2)).Nodup → ∀ {i j : Nat} {C : Addr}, (i, C) ∈ cs → (j, C) ∈ cs → i = j := by
  induction cs with
  | nil => intro _ i j C h; cases h
  | cons p cs ih =>
    intro hn i j C h1 h2
    rw [List.map_cons, List.nodup_cons] at hn
    rcases List.mem_cons.mp h1 with e1 | h1
    · rcases List.mem_cons.mp h2 with e2 | h2
      · rw [← e1] at e2; exact (congrArg Prod.fst e2).symm
      · exact absurd (List.mem_map.mpr ⟨_, h2, by rw [← e1]⟩) hn.1
    · rcases List.mem_cons.mp h2 with e2 | h2
      · exact absurd (List.mem_map.mpr ⟨_, h1, by rw [← e2]⟩) hn.1
      · exact ih hn.2 h1 h2
theorem le_sum {C : Nat} : ∀ {l : List Nat}, C ∈ l → C ≤ l.sum
  | x :: l, h => by
    rw [List.sum_cons]
    rcases List.mem_cons.mp h with rfl | h
    · exact Nat.le_add_right _ _
    · exact Nat.le_trans (le_sum h) (Nat.le_add_left _ _)
theorem caOf_inj {cs : List (Nat × Addr)} (hn : (cs.map (·.2)).Nodup) {i : Nat} {C : Addr} (h : cs.lookup i = some C) {c : Nat} (e : caOf cs c = caOf cs i) : c = i := by
  have hm := mem_lookup h
  have ei : caOf cs i = C := by unfold caOf; rw [h]
  rw [ei] at e
  unfold caOf at e
  split at e
  · rename_i D hd
    subst e
    exact nd_snd hn (mem_lookup hd) hm
  · have := le_sum (List.mem_map.mpr ⟨_, hm, rfl⟩ : C ∈ cs.map (·.2))
    rw [← e] at this
    exact absurd this (Nat.not_succ_le_self _)
end VL
set_option Elab.async false
set_option linter.all false
set_option maxRecDepth 100000
set_option maxHeartbeats 4000000
namespace VL
open PySem PySem.Spec PyProof.Rows L2 RZ
/-! ### zip of two lists or tuples, of any lengths -/
structure ZKind (K : PySem.W.Frag) (SqX : Hp → Addr → List V → Prop) (ob : Addr → Obj) (IsI : Heap → Addr → Addr → Nat → Prop) (IsS : Heap → Addr → Array Value → Prop) : Prop extends SqKind K SqX ob IsI IsS where
  item : ∀ {prog : Program} {w : World} {A : Around} {E : Value → Shared → Prop} {s : Shared} {Q : Value → Shared → Prop} {it l : Addr} {i : Nat} {items : Array Value} {x : Value}, IsI s.heap it l i → IsS s.heap l items → items[i]? = some x →
    (∀ h', IsI h' it l (i + 1) → Heap.SameBut it s.heap h' → Q x { s with heap := h' }) → wpAny (model prog w) A (Builtin.SmallTypes.nextOf (.ref it)) Q E s
  iext : ∀ {h h' : Heap} {it l c : Addr} {i : Nat}, IsI h it l i → Heap.ExtBut c h h' → it ≠ c → IsI h' it l i
  sext : ∀ {h h' : Heap} {l c : Addr} {its : Array Value}, IsS h l its → Heap.ExtBut c h h' → l ≠ c → IsS h' l its
  spush : ∀ {h : Heap} {l : Addr} {its : Array Value}, IsS h l its → ∀ o, IsS (h.push o) l its
theorem zk_list (K : PySem.W.Frag) : ZKind K (SqL K) (fun a => { cls := .type "list_iterator", data := .fields #[.ref a, .int 0 0] }) (fun h it a i => h.IsListIter it a i) (fun h a its => h.IsList a its) :=
  { sqk_list K with
    item := fun h1 h2 h3 h => wpAny_nextOf_list_item h1 h2 h3 h
    iext := fun h1 h2 h3 => h1.extBut h2 h3
    sext := fun h1 h2 h3 => h1.extBut h2 h3
    spush := fun h o => h.push o }
theorem zk_tup (K : PySem.W.Frag) : ZKind K (SqT K) (fun a => { cls := .type "tuple_iterator", data := .fields #[.ref a, .int 0 0] }) (fun h it a i => h.IsTupleIter it a i) (fun h a its => h.IsTuple a its) :=
  { sqk_tup K with
    item := fun h1 h2 h3 h => nextOf_tuple_item h1 h2 h3 h
    iext := fun h1 h2 h3 => h1.extBut h2 h3
    sext := fun h1 h2 h3 => h1.extBut h2 h3
    spush := fun h o => h.push o }
section
variable {K : PySem.W.Frag} {Q1 Q2 : Hp → Addr → List V → Prop} {ob1 ob2 : Addr → Obj} {I1 I2 : Heap → Addr → Addr → Nat → Prop} {S1 S2 : Heap → Addr → Array Value → Prop}
section
open PySem.Sem (wp)
variable {prog : Program} {w : World} {A : Around} {E : Value → Shared → Prop} {s : Shared}
theorem zipG_next_item (Z1 : ZKind K Q1 ob1 I1 S1) (Z2 : ZKind K Q2 ob2 I2 S2) {z TI TO i1 i2 l1 l2 : Addr} {k1 k2 : Nat} {xs ys : Array Value} {x y a b : Value} {Q : Value → Shared → Prop} (D : ZipApart z TI TO i1 i2 l1 l2)
    (hz : IsZip s.heap z TI TO .none) (hTI : IsPair s.heap TI (.ref i1) (.ref i2)) (hTO : IsPair s.heap TO a b)
    (h1 : I1 s.heap i1 l1 k1) (h2 : I2 s.heap i2 l2 k2) (hl1 : S1 s.heap l1 xs) (hl2 : S2 s.heap l2 ys) (hx : xs[k1]? = some x) (hy : ys[k2]? = some y)
    (hQ : ∀ h', IsZip h' z TI TO (rawInt s.heap.objs.size) → IsPair h' TO x y → I1 h' i1 l1 (k1 + 1) → I2 h' i2 l2 (k2 + 1) → IsPair h' s.heap.objs.size x y → h'.objs.size = s.heap.objs.size + 1 →
      (∀ c o, c ≠ z → c ≠ TO → c ≠ i1 → c ≠ i2 → s.heap.get? c = some o → h'.get? c = some o) → Q (.ref s.heap.objs.size) { s with heap := h' }) :
    wpAny (model prog w) A (Builtin.«zip.__next__» ⟨[.ref z], []⟩) (fun fin s' => ∃ v, fin = .done (.ret v) ∧ Q v s') E s := by
  show wpAny _ _ (field (.ref z) 2 >>= _) _ _ _
  refine wpAny_bind (wpAny_field hz rfl (x := .bool false) rfl ?_)
  show wpAny _ _ (field (.ref z) 3 >>= _) _ _ _
  refine wpAny_bind (wpAny_field hz rfl (x := .ref TI) rfl ?_)
  refine wpAny_bind (wpAny_seqItems hTI rfl ?_)
  show wpAny _ _ (Builtin.SmallTypes.ownedTupleIsFree (.ref z) >>= _) _ _ _
  refine wpAny_bind ?_
  unfold Builtin.SmallTypes.ownedTupleIsFree
  refine wpAny_bind (wpAny_field hz rfl (x := .none) rfl (wpAny_pure ?_))
  simp only [if_true]
  refine wpAny_bind (wpAny_rule ?_)
  refine wpAny_bind (wpAny_field hz rfl (x := .ref TO) rfl ?_)
  refine wpAny_bind (wpAny_setField_rec hz (by simp) fun h₁ hz₁ hs₁ => ?_)
  replace hz₁ : IsZip h₁ z TI TO .ellipsis := hz₁
  refine wpAny_bind ?_
  simp only [List.zipIdx_cons, List.zipIdx_nil, List.forIn_cons, List.forIn_nil]

  refine wpAny_bind (wpAny_bind (wpAny_onRaise ?_))
  show wpAny _ _ (Builtin.SmallTypes.nextOf (.ref i1) >>= _) _ _ _
  refine wpAny_bind (Z1.item (Z1.iext h1 hs₁.extBut D.i1z) (Z1.sext hl1 hs₁.extBut D.l1z) hx fun h₂ h1₂ hs₂ => wpAny_pure ?_)
  have hTO₂ : IsPair h₂ TO a b := hs₂.extBut _ _ D.TOi1 (hs₁.extBut _ _ D.TOz hTO)
  refine wpAny_bind (wpAny_seqItems hTO₂ rfl ?_)
  refine wpAny_bind (wpAny_updateSeq_pair hTO₂ fun h₃ hTO₃ hs₃ => ?_)
  replace hTO₃ : IsPair h₃ TO x b := hTO₃
  refine wpAny_bind (wpAny_letGo (wpAny_pure ?_))

  refine wpAny_bind (wpAny_bind (wpAny_onRaise ?_))
  show wpAny _ _ (Builtin.SmallTypes.nextOf (.ref i2) >>= _) _ _ _
  refine wpAny_bind (Z2.item (Z2.iext (Z2.iext (Z2.iext h2 hs₁.extBut D.i2z) hs₂.extBut D.i12.symm) hs₃.extBut D.TOi2.symm)
    (Z2.sext (Z2.sext (Z2.sext hl2 hs₁.extBut D.l2z) hs₂.extBut D.l2i1) hs₃.extBut D.l2TO) hy fun h₄ h2₄ hs₄ => wpAny_pure ?_)
  have hTO₄ : IsPair h₄ TO x b := hs₄.extBut _ _ D.TOi2 hTO₃
  refine wpAny_bind (wpAny_seqItems hTO₄ rfl ?_)
  refine wpAny_bind (wpAny_updateSeq_pair hTO₄ fun h₅ hTO₅ hs₅ => ?_)
  replace hTO₅ : IsPair h₅ TO x y := hTO₅
  refine wpAny_bind (wpAny_letGo (wpAny_pure (wpAny_pure ?_)))

  refine wpAny_bind (wpAny_seqItems hTO₅ rfl ?_)
  refine wpAny_bind (wpAny_newTuple ?_)
  have hsz : h₅.objs.size = s.heap.objs.size := by rw [hs₅.1, hs₄.1, hs₃.1, hs₂.1, hs₁.1]
  have hz₅ : IsZip h₅ z TI TO .ellipsis := hs₅.extBut _ _ D.TOz.symm (hs₄.extBut _ _ D.i2z.symm (hs₃.extBut _ _ D.TOz.symm (hs₂.extBut _ _ D.i1z.symm hz₁)))
  have hk₅ : ∀ c o, c ≠ z → c ≠ TO → c ≠ i1 → c ≠ i2 → s.heap.get? c = some o → h₅.get? c = some o := fun c o c1 c2 c3 c4 e =>
    hs₅.extBut _ _ c2 (hs₄.extBut _ _ c4 (hs₃.extBut _ _ c2 (hs₂.extBut _ _ c3 (hs₁.extBut _ _ c1 e))))
  have h1₅ : I1 h₅ i1 l1 (k1 + 1) := Z1.iext (Z1.iext (Z1.iext h1₂ hs₃.extBut D.TOi1.symm) hs₄.extBut D.i12) hs₅.extBut D.TOi1.symm
  have h2₅ : I2 h₅ i2 l2 (k2 + 1) := Z2.iext h2₄ hs₅.extBut D.TOi2.symm
  have hzlt : z < h₅.objs.size := Heap.lt_size hz₅
  have hTOlt : TO < h₅.objs.size := Heap.lt_size hTO₅
  have hi1lt : i1 < h₅.objs.size := by obtain ⟨_, e, _⟩ := Z1.obj h1₅; exact Heap.lt_size e
  have hi2lt : i2 < h₅.objs.size := by obtain ⟨_, e, _⟩ := Z2.obj h2₅; exact Heap.lt_size e
  show wpAny _ _ (Builtin.SmallTypes.ownedTupleHandOut (.ref z) (.ref h₅.objs.size) >>= _) _ _ _
  refine wpAny_bind ?_
  unfold Builtin.SmallTypes.ownedTupleHandOut
  have hz₆ : IsZip (h₅.push { cls := .type "tuple", data := .seq #[x, y] }) z TI TO .ellipsis := Heap.get?_push_of_some _ hz₅
  refine wpAny_bind (wpAny_setField_rec hz₆ (by simp) fun h₇ hz₇ hs₇ => ?_)
  replace hz₇ : IsZip h₇ z TI TO (rawInt h₅.objs.size) := hz₇
  refine wpAny_setField_rec hz₇ (by simp) fun h₈ hz₈ hs₈ => ?_
  replace hz₈ : IsZip h₈ z TI TO (rawInt h₅.objs.size) := hz₈
  have up : ∀ c o, c ≠ z → h₅.get? c = some o → h₈.get? c = some o := fun c o c1 e => hs₈.extBut _ _ c1 (hs₇.extBut _ _ c1 (Heap.get?_push_of_some _ e))
  have hT₈ : IsPair h₈ h₅.objs.size x y := hs₈.extBut _ _ (Nat.ne_of_gt hzlt) (hs₇.extBut _ _ (Nat.ne_of_gt hzlt) (Heap.get?_push_size _ rfl))
  have hz8 : h₈.objs.size = h₅.objs.size + 1 := by rw [hs₈.1, hs₇.1, Heap.size_push]
  rw [hsz] at hz₈ hT₈ hz8
  refine wpAny_pure ⟨_, rfl, ?_⟩
  show Q (.ref h₅.objs.size) _
  rw [hsz]
  exact hQ h₈ hz₈ (up _ _ D.TOz hTO₅) (Z1.at' h1₅ fun o e => up _ o D.i1z e) (Z2.at' h2₅ fun o e => up _ o D.i2z e) hT₈ hz8 fun c o c1 c2 c3 c4 e => up c o c1 (hk₅ c o c1 c2 c3 c4 e)

theorem zipG_next_end (Z1 : ZKind K Q1 ob1 I1 S1) (Z2 : ZKind K Q2 ob2 I2 S2) {z TI TO i1 i2 l1 l2 : Addr} {k1 k2 : Nat} {xs ys : Array Value} {a b : Value} {Q : Fin → Shared → Prop} (hh : A.handled = none) (D : ZipApart z TI TO i1 i2 l1 l2)
    (hz : IsZip s.heap z TI TO .none) (hTI : IsPair s.heap TI (.ref i1) (.ref i2)) (hTO : IsPair s.heap TO a b)
    (h1 : I1 s.heap i1 l1 k1) (h2 : I2 s.heap i2 l2 k2) (hl1 : S1 s.heap l1 xs) (hl2 : S2 s.heap l2 ys) (hend : xs[k1]? = none ∨ ys[k2]? = none)
    (hE : ∀ h' e, (∀ c o, c ≠ z → c ≠ TO → c ≠ i1 → c ≠ i2 → s.heap.get? c = some o → h'.get? c = some o) → (∃ o, h'.get? e = some o ∧ o.cls = .type "StopIteration") → E (.ref e) { s with heap := h' }) :
    wpAny (model prog w) A (Builtin.«zip.__next__» ⟨[.ref z], []⟩) Q E s := by
  show wpAny _ _ (field (.ref z) 2 >>= _) _ _ _
  refine wpAny_bind (wpAny_field hz rfl (x := .bool false) rfl ?_)
  show wpAny _ _ (field (.ref z) 3 >>= _) _ _ _
  refine wpAny_bind (wpAny_field hz rfl (x := .ref TI) rfl ?_)
  refine wpAny_bind (wpAny_seqItems hTI rfl ?_)
  show wpAny _ _ (Builtin.SmallTypes.ownedTupleIsFree (.ref z) >>= _) _ _ _
  refine wpAny_bind ?_
  unfold Builtin.SmallTypes.ownedTupleIsFree
  refine wpAny_bind (wpAny_field hz rfl (x := .none) rfl (wpAny_pure ?_))
  simp only [if_true]
  refine wpAny_bind (wpAny_rule ?_)
  refine wpAny_bind (wpAny_field hz rfl (x := .ref TO) rfl ?_)
  refine wpAny_bind (wpAny_setField_rec hz (by simp) fun h₁ hz₁ hs₁ => ?_)
  replace hz₁ : IsZip h₁ z TI TO .ellipsis := hz₁
  refine wpAny_bind ?_
  simp only [List.zipIdx_cons, List.zipIdx_nil, List.forIn_cons, List.forIn_nil]
  refine wpAny_bind (wpAny_bind (wpAny_onRaise ?_))
  show wpAny _ _ (Builtin.SmallTypes.nextOf (.ref i1) >>= _) _ _ _
  cases hx : xs[k1]? with
  | none =>
    refine wpAny_bind (Z1.fin hh (Z1.iext h1 hs₁.extBut D.i1z) (Z1.sext hl1 hs₁.extBut D.l1z) hx fun h₂ e hs₂ he => ?_)
    obtain ⟨oe, hoe, hce⟩ := he
    have hz₂ : IsZip h₂ z TI TO .ellipsis := hs₂ _ _ D.i1z.symm hz₁
    have hez : e ≠ z := fun x => by subst x; rw [hz₂] at hoe; cases hoe; simp at hce
    refine wpAny_setField_rec hz₂ (by simp) fun h₃ _ hs₃ => hE h₃ e (fun c o c1 _ c3 _ x => hs₃.extBut _ _ c1 (hs₂ _ _ c3 (hs₁.extBut _ _ c1 x))) ⟨oe, hs₃.extBut _ _ hez hoe, hce⟩
  | some x =>
    have hy : ys[k2]? = none := by rcases hend with h | h; rw [hx] at h; cases h; exact h
    refine wpAny_bind (Z1.item (Z1.iext h1 hs₁.extBut D.i1z) (Z1.sext hl1 hs₁.extBut D.l1z) hx fun h₂ h1₂ hs₂ => wpAny_pure ?_)
    have hTO₂ : IsPair h₂ TO a b := hs₂.extBut _ _ D.TOi1 (hs₁.extBut _ _ D.TOz hTO)
    refine wpAny_bind (wpAny_seqItems hTO₂ rfl ?_)
    refine wpAny_bind (wpAny_updateSeq_pair hTO₂ fun h₃ hTO₃ hs₃ => ?_)
    refine wpAny_bind (wpAny_letGo (wpAny_pure ?_))
    refine wpAny_bind (wpAny_bind (wpAny_onRaise ?_))
    show wpAny _ _ (Builtin.SmallTypes.nextOf (.ref i2) >>= _) _ _ _
    refine wpAny_bind (Z2.fin hh (Z2.iext (Z2.iext (Z2.iext h2 hs₁.extBut D.i2z) hs₂.extBut D.i12.symm) hs₃.extBut D.TOi2.symm)
      (Z2.sext (Z2.sext (Z2.sext hl2 hs₁.extBut D.l2z) hs₂.extBut D.l2i1) hs₃.extBut D.l2TO) hy fun h₄ e hs₄ he => ?_)
    obtain ⟨oe, hoe, hce⟩ := he
    have hz₄ : IsZip h₄ z TI TO .ellipsis := hs₄ _ _ D.i2z.symm (hs₃.extBut _ _ D.TOz.symm (hs₂.extBut _ _ D.i1z.symm hz₁))
    have hez : e ≠ z := fun x => by subst x; rw [hz₄] at hoe; cases hoe; simp at hce
    refine wpAny_setField_rec hz₄ (by simp) fun h₅ _ hs₅ => hE h₅ e (fun c o c1 c2 c3 c4 x => hs₅.extBut _ _ c1 (hs₄ _ _ c4 (hs₃.extBut _ _ c2 (hs₂.extBut _ _ c3 (hs₁.extBut _ _ c1 x))))) ⟨oe, hs₅.extBut _ _ hez hoe, hce⟩

theorem pyNext_zipG_item (Z1 : ZKind K Q1 ob1 I1 S1) (Z2 : ZKind K Q2 ob2 I2 S2) {z TI TO i1 i2 l1 l2 : Addr} {k1 k2 : Nat} {xs ys : Array Value} {x y a b : Value} {Q : Option Value → Shared → Prop} (D : ZipApart z TI TO i1 i2 l1 l2)
    (hz : IsZip s.heap z TI TO .none) (hTI : IsPair s.heap TI (.ref i1) (.ref i2)) (hTO : IsPair s.heap TO a b)
    (h1 : I1 s.heap i1 l1 k1) (h2 : I2 s.heap i2 l2 k2) (hl1 : S1 s.heap l1 xs) (hl2 : S2 s.heap l2 ys) (hx : xs[k1]? = some x) (hy : ys[k2]? = some y)
    (hQ : ∀ h', IsZip h' z TI TO (rawInt s.heap.objs.size) → IsPair h' TO x y → I1 h' i1 l1 (k1 + 1) → I2 h' i2 l2 (k2 + 1) → IsPair h' s.heap.objs.size x y → h'.objs.size = s.heap.objs.size + 1 →
      (∀ c o, c ≠ z → c ≠ TO → c ≠ i1 → c ≠ i2 → s.heap.get? c = some o → h'.get? c = some o) → Q (some (.ref s.heap.objs.size)) { s with heap := h' }) :
    wpAny (model prog w) A (pyNext (.ref z)) Q E s := by
  have hT : s.TypeIs (.ref z) "zip" := ⟨_, hz, rfl⟩
  unfold pyNext
  exact wpAny_bind (wpAny_attempt (wpAny_callSpecial?_slot (name := Str.ofString "__next__") hT F.slot_zip_next
    (wpAny_call_entry F.slot_zip_next hT F.entry_zip_next
      (zipG_next_item Z1 Z2 D hz hTI hTO h1 h2 hl1 hl2 hx hy fun h' a1 a2 a3 a4 a5 a6 a7 => wpAny_pure (hQ h' a1 a2 a3 a4 a5 a6 a7)) (F.args_zip_next_1 _))))

theorem pyNext_zipG_end (Z1 : ZKind K Q1 ob1 I1 S1) (Z2 : ZKind K Q2 ob2 I2 S2) {z TI TO i1 i2 l1 l2 : Addr} {k1 k2 : Nat} {xs ys : Array Value} {a b : Value} {Q : Option Value → Shared → Prop} (hh : A.handled = none) (D : ZipApart z TI TO i1 i2 l1 l2)
    (hz : IsZip s.heap z TI TO .none) (hTI : IsPair s.heap TI (.ref i1) (.ref i2)) (hTO : IsPair s.heap TO a b)
    (h1 : I1 s.heap i1 l1 k1) (h2 : I2 s.heap i2 l2 k2) (hl1 : S1 s.heap l1 xs) (hl2 : S2 s.heap l2 ys) (hend : xs[k1]? = none ∨ ys[k2]? = none)
    (hQ : ∀ h', (∀ c o, c ≠ z → c ≠ TO → c ≠ i1 → c ≠ i2 → s.heap.get? c = some o → h'.get? c = some o) → Q none { s with heap := h' }) : wpAny (model prog w) A (pyNext (.ref z)) Q E s := by
  have hT : s.TypeIs (.ref z) "zip" := ⟨_, hz, rfl⟩
  unfold pyNext
  refine wpAny_bind (wpAny_attempt (wpAny_callSpecial?_slot (name := Str.ofString "__next__") hT F.slot_zip_next
    (wpAny_call_entry F.slot_zip_next hT F.entry_zip_next (zipG_next_end Z1 Z2 hh D hz hTI hTO h1 h2 hl1 hl2 hend fun h' e hk he => ?_) (F.args_zip_next_1 _))))
  obtain ⟨o, ho, hc⟩ := he
  refine wpAny_bind (wpAny_isInstance (T := "StopIteration") (b := true) ⟨o, ho, hc⟩ isSubtype_stop ?_)
  exact wpAny_pure (hQ _ hk)

end
/-- the items at a and b as they stand at each turn, in new pairs -/
def Itzg (Q1 Q2 : Hp → Addr → List V → Prop) (a b : Addr) : It :=
  ⟨fun i H => ∃ (xs ys : List V) (x y : V), Q1 H a xs ∧ Q2 H b ys ∧ xs[i]? = some x ∧ ys[i]? = some y,
    fun i H v H' => ∃ T x y, v = .ref T ∧ H T = none ∧ H' = upd H T (.tup [x, y]) ∧ (∀ xs, Q1 H a xs → xs[i]? = some x) ∧ ∀ ys, Q2 H b ys → ys[i]? = some y,
    fun i H => ∃ xs ys : List V, Q1 H a xs ∧ Q2 H b ys ∧ (xs.length ≤ i ∨ ys.length ≤ i)⟩
theorem turn_zipG (Z1 : ZKind K Q1 ob1 I1 S1) (Z2 : ZKind K Q2 ob2 I2 S2) {P : Program} {w : World} {elts : List Expr} {kk : Nat} {tpos : Pos} {a b z TI TO i1 i2 : Addr} (D : ZipApart z TI TO i1 i2 a b) :
    Turn P w K (.Tuple elts kk tpos) (Itzg Q1 Q2 a b) [z, TI, TO, i1, i2] z (fun i h => IsZip h z TI TO .none ∧ IsPair h TI (.ref i1) (.ref i2) ∧ (∃ x y, IsPair h TO x y) ∧ I1 h i1 a i ∧ I2 h i2 b i) where
  mem := by simp
  obj := fun i h st c hc => by
    obtain ⟨hz, hTI, ⟨x, y, hTO⟩, q1, q2⟩ := st
    obtain ⟨o1, e1, d1⟩ := Z1.obj q1
    obtain ⟨o2, e2, d2⟩ := Z2.obj q2
    have e' : c = z ∨ c = TI ∨ c = TO ∨ c = i1 ∨ c = i2 := by simpa using hc
    rcases e' with q | q | q | q | q
    · rw [q]; exact ⟨_, hz, fun v q => nomatch q⟩
    · rw [q]; exact ⟨_, hTI, fun v q => nomatch q⟩
    · rw [q]; exact ⟨_, hTO, fun v q => nomatch q⟩
    · rw [q]; exact ⟨o1, e1, d1⟩
    · rw [q]; exact ⟨o2, e2, d2⟩
  keep := fun i h h' st k => by
    obtain ⟨hz, hTI, ⟨x, y, hTO⟩, h1, h2⟩ := st
    exact ⟨k z (by simp) _ hz, k TI (by simp) _ hTI, ⟨x, y, k TO (by simp) _ hTO⟩, Z1.at' h1 fun o q => k i1 (by simp) o q, Z2.at' h2 fun o q => k i2 (by simp) o q⟩
  item := by
    intro X hP hw hK hc i pins s σ H E I hf st hg
    subst hP hw
    obtain ⟨hz, hTI, ⟨x0, y0, hTO⟩, h1, h2⟩ := st
    obtain ⟨xs, ys, x, y, hqx, hqy, hx, hy⟩ := hg
    obtain ⟨its, rv, p, _, _⟩ := Z1.get X hK I hqx
    obtain ⟨its2, rv2, p2, _, _⟩ := Z2.get X hK I hqy
    obtain ⟨u, hu, ru⟩ := rv.get hx
    obtain ⟨u2, hu2, ru2⟩ := rv2.get hy
    have hzl : z < s.heap.objs.size := Heap.lt_size hz
    refine pyNext_zipG_item Z1 Z2 D hz hTI hTO h1 h2 p p2 (x := u) (y := u2) (by simpa using hu) (by simpa using hu2) fun h' z' TO' h1' h2' hT hsz hk => ?_
    refine ⟨_, rfl, wpAny_letOwnedTupleGo_zip (s := { s with heap := h' }) z' fun h'' z'' sb => ?_⟩
    have hT2 : h''.get? s.heap.objs.size = some { cls := .type "tuple", data := .seq #[u, u2] } := (sb.2 _ (Nat.ne_of_gt hzl)).trans hT
    have new : ObjOk X.prog X.w (upd H s.heap.objs.size (.tup [x, y])) h'' s.heap.objs.size (.tup [x, y]) :=
      ⟨by show 2 ≤ sizeLine; decide, [u, u2], .cons ru (.cons ru2 .nil), ⟨_, hT2, rfl, _, rfl⟩⟩
    have I1 : Inv X pins σ (upd H s.heap.objs.size (.tup [x, y])) { s with heap := h'' } :=
      I.turnedNew (t' := s.toks) (ch := [z, TI, TO, i1, i2]) (fun c o hb q => (sb.2 c (fun q' => hb (by simp [q']))).trans (hk c o (fun q' => hb (by simp [q'])) (fun q' => hb (by simp [q'])) (fun q' => hb (by simp [q'])) (fun q' => hb (by simp [q'])) q)) hf (Nat.le_refl _) new
    refine ⟨.ref s.heap.objs.size, _, I1, rfl, ⟨_, x, y, rfl, I.hok.fresh (Nat.le_refl _), rfl, fun l hl => by rw [Z1.inj X hK I hl hqx]; exact hx, fun l hl => by rw [Z2.inj X hK I hl hqy]; exact hy⟩, ⟨z'', ?_, ⟨u, u2, ?_⟩, ?_, ?_⟩, fun c hcm => ?_⟩
    · exact (sb.2 _ D.TIz).trans (hk _ _ D.TIz D.TITO D.TIi1 D.TIi2 hTI)
    · exact (sb.2 _ D.TOz).trans TO'
    · exact Z1.at' h1' fun o q => (sb.2 _ D.i1z).trans q
    · exact Z2.at' h2' fun o q => (sb.2 _ D.i2z).trans q
    · have hlt : c < s.heap.objs.size := by
        have e' : c = z ∨ c = TI ∨ c = TO ∨ c = i1 ∨ c = i2 := by simpa using hcm
        rcases e' with q | q | q | q | q
        · rw [q]; exact hzl
        · rw [q]; exact Heap.lt_size hTI
        · rw [q]; exact Heap.lt_size hTO
        · rw [q]; obtain ⟨_, e1, _⟩ := Z1.obj h1; exact Heap.lt_size e1
        · rw [q]; obtain ⟨_, e2, _⟩ := Z2.obj h2; exact Heap.lt_size e2
      rw [upd_ne (Nat.ne_of_lt hlt)]
      exact (hf c hcm).1
  done := by
    intro X hP hw hK hc i pins s σ H E I hf st hg
    subst hP hw
    obtain ⟨hz, hTI, ⟨x0, y0, hTO⟩, h1, h2⟩ := st
    obtain ⟨xs, ys, hqx, hqy, hend⟩ := hg
    obtain ⟨its, rv, p, _, _⟩ := Z1.get X hK I hqx
    obtain ⟨its2, rv2, p2, _, _⟩ := Z2.get X hK I hqy
    have l1 := rv.length
    have l2 := rv2.length
    have he : its.toArray[i]? = none ∨ its2.toArray[i]? = none := by
      rcases hend with q | q
      · exact .inl (by simp; omega)
      · exact .inr (by simp; omega)
    exact pyNext_zipG_end Z1 Z2 (I.ok.hd hc) D hz hTI hTO h1 h2 p p2 he fun h' hk => ⟨rfl, I.turnedL (t' := s.toks) (ch := [z, TI, TO, i1, i2]) (fun c o hb q =>
      hk c o (fun q' => hb (by simp [q'])) (fun q' => hb (by simp [q'])) (fun q' => hb (by simp [q'])) (fun q' => hb (by simp [q'])) q) hf⟩
  self := fun A i s Q E st h => wpAny_pyIter_zip st.1 h

abbrev zgH1 (h : Heap) (o1 : Obj) : Heap := h.push o1
abbrev zgH2 (h : Heap) (o1 o2 : Obj) : Heap := (zgH1 h o1).push o2
abbrev zgH3 (h : Heap) (o1 o2 : Obj) : Heap := (zgH2 h o1 o2).push { cls := .type "tuple", data := .seq #[.ref h.objs.size, .ref (zgH1 h o1).objs.size] }
abbrev zgH4 (h : Heap) (o1 o2 : Obj) : Heap := (zgH3 h o1 o2).push { cls := .type "tuple", data := .seq #[.none, .none] }
abbrev zgH5 (h : Heap) (o1 o2 : Obj) : Heap := (zgH4 h o1 o2).push { cls := .type "zip", data := .fields #[.none, .bool false, .bool false, .ref (zgH2 h o1 o2).objs.size, .ref (zgH3 h o1 o2).objs.size] }
theorem meets_zipG_new {v1 v2 : Value} {o1 o2 : Obj} {H1 H2 : Heap → Prop} (B1 : Begins v1 o1 H1) (B2 : Begins v2 o2 H2) (hp2 : ∀ h o, H2 h → H2 (h.push o)) :
    Meets (Builtin.«zip.__new__» ⟨[.type "zip", v1, v2], []⟩) (fun _ R s => H1 s.heap ∧ H2 s.heap ∧
      R (.ok (.ret (.ref (zgH4 s.heap o1 o2).objs.size))) { s with heap := zgH5 s.heap o1 o2 }) :=
  .of_wp fun prog w A R s h => by
    obtain ⟨hp, g, d, tk, os⟩ := s; obtain ⟨hl1, hl2, h⟩ := h
    have hsub := sub_zip
    have q1 : ∀ {A' : Around} {E : Value → Shared → Prop} {Q : Value → Shared → Prop}, Q (.ref hp.objs.size) ⟨hp.push o1, g, d, tk, os⟩ → wpAny (model prog w) A' (pyIter v1) Q E ⟨hp, g, d, tk, os⟩ :=
      fun q => B1.iter prog w _ _ ⟨hp, g, d, tk, os⟩ _ hl1 q
    have q2 : ∀ {A' : Around} {E : Value → Shared → Prop} {Q : Value → Shared → Prop}, Q (.ref (hp.push o1).objs.size) ⟨(hp.push o1).push o2, g, d, tk, os⟩ → wpAny (model prog w) A' (pyIter v2) Q E ⟨hp.push o1, g, d, tk, os⟩ :=
      fun q => B2.iter prog w _ _ ⟨hp.push o1, g, d, tk, os⟩ _ (hp2 _ _ hl2) q
    wp_walk using q1, q2
    exact ⟨_, rfl, h⟩
theorem call_zipG {prog : Program} {w : World} {A : Around} {E : Value → Shared → Prop} {s : Shared} {v1 v2 : Value} {o1 o2 : Obj} {H1 H2 : Heap → Prop} (B1 : Begins v1 o1 H1) (B2 : Begins v2 o2 H2) (hp2 : ∀ h o, H2 h → H2 (h.push o)) {Q : Value → Shared → Prop} (hl1 : H1 s.heap) (hl2 : H2 s.heap)
    (h : ∀ h', IsZip h' (s.heap.objs.size + 4) (s.heap.objs.size + 2) (s.heap.objs.size + 3) .none → IsPair h' (s.heap.objs.size + 2) (.ref s.heap.objs.size) (.ref (s.heap.objs.size + 1)) →
      IsPair h' (s.heap.objs.size + 3) .none .none → h'.get? s.heap.objs.size = some o1 → h'.get? (s.heap.objs.size + 1) = some o2 → h'.objs.size = s.heap.objs.size + 5 →
      (∀ c o, s.heap.get? c = some o → h'.get? c = some o) → Q (.ref (s.heap.objs.size + 4)) { s with heap := h' }) :
    wpAny (model prog w) A (call (.type "zip") [v1, v2]) Q E s := by
  refine callType_new F.called_zip (by decide) (F.typeCall_zip_2 _ _) (F.newCall_zip_2 _ _) (fun obj => F.args_object_init_3 obj _ _) F.entry_zip_new
    (meets_zipG_new B1 B2 hp2) ⟨hl1, hl2, ?_⟩
  have z1 : (zgH1 s.heap o1).objs.size = s.heap.objs.size + 1 := Heap.size_push ..
  have z2 : (zgH2 s.heap o1 o2).objs.size = s.heap.objs.size + 2 := by rw [Heap.size_push, z1]
  have z3 : (zgH3 s.heap o1 o2).objs.size = s.heap.objs.size + 3 := by rw [Heap.size_push, z2]
  have z4 : (zgH4 s.heap o1 o2).objs.size = s.heap.objs.size + 4 := by rw [Heap.size_push, z3]
  have z5 : (zgH5 s.heap o1 o2).objs.size = s.heap.objs.size + 5 := by rw [Heap.size_push, z4]
  have g5 : (zgH5 s.heap o1 o2).get? (zgH4 s.heap o1 o2).objs.size = some _ := Heap.get?_push_size _ rfl
  have g4 : (zgH5 s.heap o1 o2).get? (zgH3 s.heap o1 o2).objs.size = some _ := Heap.get?_push_of_some _ (Heap.get?_push_size _ rfl)
  have g3 : (zgH5 s.heap o1 o2).get? (zgH2 s.heap o1 o2).objs.size = some _ := Heap.get?_push_of_some _ (Heap.get?_push_of_some _ (Heap.get?_push_size _ rfl))
  have g2 : (zgH5 s.heap o1 o2).get? (zgH1 s.heap o1).objs.size = some o2 := Heap.get?_push_of_some _ (Heap.get?_push_of_some _ (Heap.get?_push_of_some _ (Heap.get?_push_size _ B2.free)))
  have g1 : (zgH5 s.heap o1 o2).get? s.heap.objs.size = some o1 := Heap.get?_push_of_some _ (Heap.get?_push_of_some _ (Heap.get?_push_of_some _ (Heap.get?_push_of_some _ (Heap.get?_push_size _ B1.free))))
  show _ ∧ _
  rw [z2, z3, z4] at g5
  rw [z1, z2] at g3
  rw [z3] at g4
  rw [z1] at g2
  rw [z4]
  exact ⟨⟨_, g5, rfl⟩, h _ g5 g3 g4 g1 g2 z5 fun c o x =>
    Heap.get?_push_of_some _ (Heap.get?_push_of_some _ (Heap.get?_push_of_some _ (Heap.get?_push_of_some _ (Heap.get?_push_of_some _ x))))⟩
theorem zip_one {X : Cx} {pins : List (Addr × Obj)} {σ : L2.St} {H : Hp} {s : Shared} {R : It → Hp → Prop} {elts : List Expr} {kk : Nat} {tpos : Pos} {E : Value → Shared → Prop} (Z1 : ZKind X.K Q1 ob1 I1 S1) (Z2 : ZKind X.K Q2 ob2 I2 S2) {a b : Addr} {xs ys : List V} (I : Inv X pins σ H s) (hx : Q1 H a xs) (hy : Q2 H b ys) (q : R (Itzg Q1 Q2 a b) H) :
    wpAny (model X.prog X.w) X.A (call (.type "zip") [.ref a, .ref b]) (fun v s' => wpAny (model X.prog X.w) X.A (pyIter v) (PIE X pins σ (.Tuple elts kk tpos) R) E s') E s := by
  obtain ⟨its, rv, p1, _, l1⟩ := Z1.get X rfl I hx
  obtain ⟨its2, rv2, p2, _, l2⟩ := Z2.get X rfl I hy
  refine call_zipG (Z1.begin a its.toArray) (Z2.begin b its2.toArray) (fun h o hh => Z2.spush hh o) p1 p2 fun h' hz hTI hTO h1 h2 hsz hk => wpAny_pyIter_zip hz ?_
  have I2 : Inv X pins σ H { s with heap := h' } := I.kept (t' := s.toks) hk
  refine ⟨s.heap.objs.size + 4, [s.heap.objs.size + 4, s.heap.objs.size + 2, s.heap.objs.size + 3, s.heap.objs.size, s.heap.objs.size + 1], _, _, H, rfl, I2, turn_zipG Z1 Z2 (PySem.W.ktu_apart s.heap.objs.size a b l1 l2), ⟨hz, hTI, ⟨_, _, hTO⟩, Z1.isi _ _ _ h1, Z2.isi _ _ _ h2⟩, fun c hcm => ?_, q⟩
  have e' : c = s.heap.objs.size + 4 ∨ c = s.heap.objs.size + 2 ∨ c = s.heap.objs.size + 3 ∨ c = s.heap.objs.size ∨ c = s.heap.objs.size + 1 := by simpa using hcm
  have hle : s.heap.objs.size ≤ c := by
    rcases e' with z | z | z | z | z <;> rw [z] <;> first | exact Nat.le_add_right _ _ | exact Nat.le_refl _
  exact I.fpOk hle (I.hok.fresh hle)
end
section
variable {G : Gm} {X : Cx} {k : Nat} {Wx : WX} {σ : L2.St} {w w' : Wd} {ρ : Rho} {Dn : Ends}
def iZipV (K : PySem.W.Frag) (ta : TA) : TI := fun σ H R => ta σ H fun vs H1 => ∃ a b xs ys, vs = [.ref a, .ref b] ∧ ((SqL K H1 a xs ∧ SqL K H1 b ys ∧ R (Itzg (SqL K) (SqL K) a b) H1) ∨ (SqT K H1 a xs ∧ SqT K H1 b ys ∧ R (Itzg (SqT K) (SqT K) a b) H1) ∨ (SqL K H1 a xs ∧ SqT K H1 b ys ∧ R (Itzg (SqL K) (SqT K) a b) H1) ∨ (SqT K H1 a xs ∧ SqL K H1 b ys ∧ R (Itzg (SqT K) (SqL K) a b) H1))
theorem pi_zipV {X : Cx} {e e2 : Expr} {ta : TA} {p pos tpos : Pos} {elts : List Expr} {kk : Nat} (hg : Gl X "zip") (hm : X.mg "zip" = none) (ha : PA X [e, e2] ta)
    (hs : starEach [e, e2] X.env = (false, eval e X.env) :: starEach [e2] X.env := by rfl) (hpl : (backTo pos (starEach [e2] X.env)).any (·.1) = false := by rfl) :
    PI X (.Tuple elts kk tpos) (.Call (.Name "zip" p) [e, e2] [] pos) (iZipV X.K ta) := by
  refine ⟨fun pins s σ H R I h => ?_⟩
  refine Call_ (ld_blt I hg hm PyProof.Rows.boot_zip (PyProof.Rows.callWith_type1 (thn (ha.run pos pins s σ H _ I h) fun us s1 ⟨vs, H1, I1, r1, q1⟩ => ?_) hs hpl))
  obtain ⟨a, b, xs, ys, ex, q1⟩ := q1
  subst ex
  cases r1 with
  | cons r rr =>
    cases rr with
    | cons r' rr =>
      cases rr
      cases r
      cases r'
      rcases q1 with ⟨hqx, hqy, q⟩ | ⟨hqx, hqy, q⟩ | ⟨hqx, hqy, q⟩ | ⟨hqx, hqy, q⟩
      · exact zip_one (zk_list X.K) (zk_list X.K) I1 hqx hqy q
      · exact zip_one (zk_tup X.K) (zk_tup X.K) I1 hqx hqy q
      · exact zip_one (zk_list X.K) (zk_tup X.K) I1 hqx hqy q
      · exact zip_one (zk_tup X.K) (zk_list X.K) I1 hqx hqy q
/-- pairs of two lists -/
def zipL (as bs : List D) : List D := (as.zip bs).map fun p => .tup [p.1, p.2]
def seqQ : Vl → Option (List D)
  | .d (.lst ds) => some ds
  | .d (.tup ds) => some ds
  | _ => none
def zipS (as : List Vl) (W : List O) : Res (List D) := match as with
  | [a, b] => match seqQ a, seqQ b with
    | some ds, some es => .ok (zipL ds es) W
    | _, _ => .bad
  | _ => .bad
def iZip (f : VL.Sem (List Vl)) : VL.Sem (List D) := fun ρ W => (f ρ W).bind zipS
/-- a sequence that stays, of one of the kinds -/
def HsSeq (w : Wd) (SqX : Hp → Addr → List V → Prop) (a : Addr) (vs : List V) : Prop := ∀ w1, Le w w1 → Good G w1 → SqX w1.H a vs
theorem itok_zip {Q1 Q2 : Hp → Addr → List V → Prop} {a b : Addr} {vs us : List V} {ds es : List D} (h1 : HsSeq (G := G) w Q1 a vs) (h2 : HsSeq (G := G) w Q2 b us) (r : Reps G w ds vs) (r2 : Reps G w es us) : ItOk G w (Itzg Q1 Q2 a b) (zipL ds es) := fun w1 l g => by
  have q1 := h1 w1 l g
  have q2 := h2 w1 l g
  have e1 := Reps.mono l _ _ r
  have e2 := Reps.mono l _ _ r2
  have l1 := e1.length
  have l2 := e2.length
  have lz : (zipL ds es).length = min ds.length es.length := by unfold zipL; rw [List.length_map, List.length_zip]
  refine ⟨fun i hi => ⟨vs, us, vs[i]'(by omega), us[i]'(by omega), q1, q2, List.getElem?_eq_getElem _, List.getElem?_eq_getElem _⟩, ⟨vs, us, q1, q2, by omega⟩, fun i x H' hy d hd => ?_⟩
  obtain ⟨T, x1, y1, rfl, hT, eH, hf, hg⟩ := hy
  unfold zipL at hd
  rw [List.getElem?_map] at hd
  obtain ⟨⟨d1, d2⟩, ez, rfl⟩ := Option.map_eq_some_iff.mp hd
  rw [List.getElem?_zip_eq_some] at ez
  obtain ⟨v1, f1, f2⟩ := e1.get ez.1
  obtain ⟨v2, f3, f4⟩ := e2.get ez.2
  have a1 := hf vs q1
  have a2 := hg us q2
  rw [f1] at a1; cases a1
  rw [f3] at a2; cases a2
  exact new_pair g hT eH f2 f4
theorem si_zip {e e2 : Expr} {f : VL.Sem (List Vl)} {p pos tpos : Pos} {elts : List Expr} {kk : Nat} (hg : Gl X "zip") (hm : X.mg "zip" = none) (h : SA G X Wx [e, e2] f)
    (hs : starEach [e, e2] X.env = (false, eval e X.env) :: starEach [e2] X.env := by rfl) (hpl : (backTo pos (starEach [e2] X.env)).any (·.1) = false := by rfl) :
    SI G X Wx (.Tuple elts kk tpos) (.Call (.Name "zip" p) [e, e2] [] pos) (iZip f) :=
  PI.imp (pi_zipV hg hm h hs hpl) fun σ H R hh => it1 (R := RepVs G) hh fun ρ w v a g er r p => by
    have gl : ∀ {a : Addr} {vs : List V}, w.Hs a = some (.lst vs) → HsSeq (G := G) w (SqL X.K) a vs := fun hs w1 l g => .of (g.shN (l.hs _ _ hs) rfl)
    have gt : ∀ {a : Addr} {vs : List V}, w.Hs a = some (.tup vs) → HsSeq (G := G) w (SqT X.K) a vs := fun hs w1 l g => .of (g.shN (l.hs _ _ hs) rfl)
    unfold zipS at p
    split at p
    · rename_i x y
      split at p
      · rename_i ds es ex ey
        obtain ⟨v1, r1, rfl, q1, v2, r2, rfl, q2, rfl⟩ := r
        unfold seqQ at ex ey
        split at ex <;> split at ey <;> first | (cases ex; done) | (cases ey; done) | skip
        all_goals cases ex; cases ey
        · obtain ⟨a1, vs, rfl, hs1, t1⟩ := q1
          obtain ⟨a2, us, rfl, hs2, t2⟩ := q2
          exact ⟨a1, a2, vs, us, rfl, .inl ⟨gl hs1 w (Le.refl w) g, gl hs2 w (Le.refl w) g, p w _ (Le.refl w) g rfl (itok_zip (gl hs1) (gl hs2) t1 t2)⟩⟩
        · obtain ⟨a1, vs, rfl, hs1, t1⟩ := q1
          obtain ⟨a2, us, rfl, hs2, t2⟩ := q2
          exact ⟨a1, a2, vs, us, rfl, .inr (.inr (.inl ⟨gl hs1 w (Le.refl w) g, gt hs2 w (Le.refl w) g, p w _ (Le.refl w) g rfl (itok_zip (gl hs1) (gt hs2) t1 t2)⟩))⟩
        · obtain ⟨a1, vs, rfl, hs1, t1⟩ := q1
          obtain ⟨a2, us, rfl, hs2, t2⟩ := q2
          exact ⟨a1, a2, vs, us, rfl, .inr (.inr (.inr ⟨gt hs1 w (Le.refl w) g, gl hs2 w (Le.refl w) g, p w _ (Le.refl w) g rfl (itok_zip (gt hs1) (gl hs2) t1 t2)⟩))⟩
        · obtain ⟨a1, vs, rfl, hs1, t1⟩ := q1
          obtain ⟨a2, us, rfl, hs2, t2⟩ := q2
          exact ⟨a1, a2, vs, us, rfl, .inr (.inl ⟨gt hs1 w (Le.refl w) g, gt hs2 w (Le.refl w) g, p w _ (Le.refl w) g rfl (itok_zip (gt hs1) (gt hs2) t1 t2)⟩)⟩
      · exact p.elim
    · exact p.elim
end
end VL
set_option Elab.async false
set_option linter.all false
set_option maxRecDepth 100000
set_option maxHeartbeats 4000000
namespace VL
open PySem PySem.Spec PyProof.Rows L2
section
variable {G : Gm} {X : Cx} {k : Nat} {Wx : WX} {σ : L2.St} {w w' : Wd} {ρ : Rho} {Dn : Ends}
/-! ### o[i] op= e on lists and dicts -/
theorem get_list : PGet X (rIxL X.K) := fun pins s σ H x y v u Q I rx ry h => by
  obtain ⟨p, xs, i, z, rfl, rfl, hq, he, q⟩ := h
  cases rx
  obtain ⟨t, rfl⟩ := ry
  obtain ⟨its, r, pl, hz⟩ := I.list hq
  obtain ⟨j, h1, h2, h3, h4, h5⟩ := atI_get he
  obtain ⟨b, ew, rw'⟩ := r.get h2
  have hl := r.length
  have hn := line63
  have fin : EP X pins σ Q b s := ⟨z, H, I, rw', q⟩
  by_cases h0 : 0 ≤ i
  · have hj : i.toNat = j := Option.some.inj ((seqIndex_of h0 h5).symm.trans h1)
    exact wpAny_getItem_list pl.isList h0 (by omega) (by rw [hj]; simpa using ew) fin
  · have hj : (i + (its.toArray.size : Int)).toNat = j := by
      rw [List.size_toArray, ← hl]
      exact Option.some.inj ((seqIndex_neg (by omega) h4).symm.trans h1)
    exact wpAny_getItem_list_neg pl.isList (by omega) (by rw [List.size_toArray] <;> omega) (by omega) (by rw [hj]; simpa using ew) fin
theorem get_dic (hu : X.A.units + 1 < cLine) : PGet X rIxD := fun pins s σ H x y v u Q I rx ry h => by
  obtain ⟨a, z, rfl, g, q⟩ := h
  cases rx
  exact d_getItem hu I g ry fun w' s' I' r' => ⟨z, H, I', r', q⟩
theorem pget_or {t t' : V → V → Hp → VK → Prop} (h : PGet X t) (h' : PGet X t') : PGet X (fun o i H Q => t o i H Q ∨ t' o i H Q) := fun pins s σ H o i ov iv Q I r1 r2 q => by
  rcases q with q | q
  · exact h pins s σ H o i ov iv Q I r1 r2 q
  · exact h' pins s σ H o i ov iv Q I r1 r2 q
def getS (a b : D) : Option D := match a with
  | .lst ds => match b with
    | .int i => atI ds i
    | _ => none
  | .dic t kvs => (dget t kvs b).bind id
  | _ => none
theorem get_reads {w : Wd} {v u : V} {a b z : D} {Q : VK} (eK : G.K = X.K) (gd : Good G w) (r1 : RepC G w a v) (r2 : RepC G w b u) (p : getS a b = some z) (wn : Want G w z Q) : rIxL X.K v u w.H Q ∨ rIxD v u w.H Q := by
  unfold getS at p
  split at p
  · rename_i ds
    split at p
    · rename_i i
      obtain ⟨a1, vs, rfl, h1, q1⟩ := r1
      obtain ⟨y, e2, e3⟩ := atI_reps q1 p
      exact .inl ⟨a1, vs, i, y, rfl, r2, .of h1, e2, wn.here gd e3⟩
    · cases p
  · rename_i t kvs
    obtain ⟨o, eo, e⟩ := Option.bind_eq_some_iff.mp p
    obtain rfl : o = some z := e
    obtain ⟨a1, rfl, y, g1, r3⟩ := dget_at gd r1 r2 eo
    exact .inr ⟨a1, y, rfl, g1, wn.here gd r3⟩
  · cases p
def sAugS (fo fi : VL.Sem Vl) (g : D → D → Option D) (fe : VL.Sem Vl) : SemS := fun ρ W => liftS (fo ρ W) ρ fun o W1 => liftS (fi ρ W1) ρ fun i W2 => liftS (on2 getS o i W2) ρ fun x W3 => liftS (fe ρ W3) ρ fun y W4 => liftS (on2 g x y W4) ρ fun z W5 => match setW o i z W5 with
  | some W6 => .ok .nx ρ W6
  | none => .bad
theorem ss_augS {o i e : Expr} {fo fi fe : VL.Sem Vl} {g : D → D → Option D} {op : Operator} {tpos pos : Pos} (vc : VC G X k Wx) (hop : IpS G X op g) (ho : SE G X Wx o fo) (hi : SE G X Wx i fi) (he : SE G X Wx e fe)
    (ha : ∀ ov iv new, augStore i ov iv new = (do holding [new, ov, iv] (setItem ov iv new); release [new, ov, iv] []; pure .next) := by intros; rfl) : SS G X Wx (.AugAssign (.Subscript o i tpos) op e pos) (sAugS fo fi g fe) := by
  obtain ⟨r, h1, h2⟩ := hop
  refine PS.imp (ps_augS ho hi (pget_or get_list (get_dic vc.hu)) he h1 (pset_or set_list (set_dic vc.hu)) ha) fun D σ H hh => ?_
  obtain ⟨w, ρ, rfl, gd, er, q⟩ := hh
  refine ⟨w, ρ, rfl, gd, er, (PostS.lift (R := RepV G) q er).mono fun ov H1 ⟨w1, o, e1, l1, g1, r1, q1⟩ => ?_⟩
  subst e1
  refine ⟨w1, ρ, rfl, g1, er.mono l1, (PostS.lift (R := RepV G) q1 (er.mono l1)).mono fun iv H2 ⟨w2, i, e2, l2, g2, r2, q2⟩ => ?_⟩
  subst e2
  have er2 := (er.mono l1).mono l2
  have q3 := PostS.lift (R := RepV G) q2 er2
  obtain ⟨x, y, z, c1, c2, ez, wn⟩ := q3.on2
  refine get_reads vc.eK g2 (RepV.now g2 (RepV.mono l2 _ _ r1) c1) (RepV.now g2 r2 c2) ez fun w3 v3 l3 g3 eW r3 => ?_
  obtain ⟨w4, d, e4, l4, g4, rr, q4⟩ := wn w3 v3 l3 g3 eW r3
  rw [← e4]
  refine ⟨w4, ρ, rfl, g4, er2.mono l4, (PostS.lift (R := RepV G) q4 (er2.mono l4)).mono fun yv H5 ⟨w5, yy, e5, l5, g5, r5, q5⟩ => ?_⟩
  subst e5
  have er5 := (er2.mono l4).mono l5
  have q6 := PostS.lift (R := RepV G) q5 er5
  obtain ⟨x2, y2, z2, c3, c4, ez2, wn2⟩ := q6.on2
  refine h2 w5 v3 yv x2 y2 z2 _ g5 (RepV.now g5 (RepV.mono l5 _ _ rr) c3) (RepV.now g5 r5 c4) ez2 fun w6 v6 l6 g6 eW6 r6 => ?_
  obtain ⟨w7, d7, e7, l7, g7, r7, q7⟩ := wn2 w6 v6 l6 g6 eW6 r6
  rw [← e7]
  have ll := (l4.trans l5).trans l7
  split at q7
  · rename_i W8 e8
    exact set_reads g7 (RepV.mono ll _ _ (RepV.mono l2 _ _ r1)) (RepV.mono ll _ _ r2) r7 e8 fun w8 l8 g8 e9 => q7 w8 l8 g8 e9 σ ((er2.mono ll).mono l8)
  · exact q7.elim
theorem sAugS_ok {fo fi fe : VL.Sem Vl} {g : D → D → Option D} {ρ : Rho} {W W1 W2 W3 W6 : List O} {o i y : Vl} {od id' x yd z : D} (h1 : fo ρ W = .ok o W1) (h2 : fi ρ W1 = .ok i W2) (c1 : cont W2 o = some od) (c2 : cont W2 i = some id') (hx : getS od id' = some x) (h3 : fe ρ W2 = .ok y W3) (c3 : cont W3 y = some yd) (hz : g x yd = some z) (hs : setW o i (.d z) W3 = some W6) : sAugS fo fi g fe ρ W = .ok .nx ρ W6 := by
  unfold sAugS
  rw [h1, liftS_ok, h2, liftS_ok]
  have e1 : on2 getS o i W2 = .ok (.d x) W2 := by unfold on2; rw [c1, Option.bind_some, c2, Option.bind_some, hx]; rfl
  rw [e1, liftS_ok, h3, liftS_ok]
  have e2 : on2 g (.d x) y W3 = .ok (.d z) W3 := by unfold on2; rw [cont_d, Option.bind_some, c3, Option.bind_some, hz]; rfl
  rw [e2, liftS_ok, hs]
/-! ### dict displays -/
def eDic0 : VL.Sem Vl := fun _ W => .ok (.o W.length) (W ++ [.dic false []])
theorem se_dic0 {pos : Pos} : SE G X Wx (.Dict [] [] pos) eDic0 := PE.imp pe_dnewK fun σ H Q ⟨w, ρ, e, g, er, p⟩ => by
  subst e
  exact fun a ha => post_push g p ha (fun _ z => by cases z) fun w' l e => ⟨[], e, rfl⟩
/-- {} as data -/
theorem se_dic0N {pos : Pos} : SE G X Wx (.Dict [] [] pos) (eC (.dic false [])) := PE.imp pe_dnewK fun σ H Q ⟨w, ρ, e, g, er, p⟩ => by
  subst e
  exact fun a ha => want_new (z := .dic false []) (o := .dK []) (fun w' v l g e r => p w' v l g e r) g (fun _ z => by cases z) ha ⟨a, [], rfl, upd_same, rfl⟩
def key1 (a b : Vl) : Option (D × D) := match a, b with
  | .d x, .d y => (toKey x).map fun _ => (x, y)
  | _, _ => none
def eDic1 (fk fv : VL.Sem Vl) : VL.Sem Vl := fun ρ W => (fk ρ W).bind fun a W1 => (fv ρ W1).bind fun b W2 => match key1 a b with
  | some p => .ok (.o W2.length) (W2 ++ [.dic false [p]])
  | none => .bad
def eDic1N (fk fv : VL.Sem Vl) : VL.Sem Vl := fun ρ W => (fk ρ W).bind fun a W1 => (fv ρ W1).bind fun b W2 => match key1 a b with
  | some p => .ok (.d (.dic false [p])) W2
  | none => .bad
theorem dic1_rd {fk fv : VL.Sem Vl} {kk : Vl → Vl → List O → Res Vl} {H : Hp} {Q : VK} (hh : tE G Wx (fun ρ W => (fk ρ W).bind fun a W1 => (fv ρ W1).bind fun b W2 => kk a b W2) σ H Q)
    (hk : ∀ (a b : Vl) (W : List O), key1 a b = none → kk a b W = .bad)
    (hg : ∀ (x y : D) (key : Key) (yv : V) (u : Wd) (p : Addr), Good G u → u.H p = none → toKey x = some key → Rep G u y yv → Post G (RepV G) Wx σ u (kk (.d x) (.d y) u.W) Q → Q (.ref p) (upd u.H p (.dK [(key, yv)]))) :
    tDisp [(tE G Wx fk, tE G Wx fv)] σ H Q := by
  obtain ⟨w, ρ, rfl, gd, er, q⟩ := hh
  intro p hp
  have lp := le_priv (o := .dK []) hp
  have gp := good_priv (o := .dK []) gd hp
  have q : Post G (RepV G) Wx σ w ((fk ρ w.W).bind fun a W1 => (fv ρ W1).bind fun b W2 => kk a b W2) Q := q
  refine ⟨priv w p (.dK []), ρ, rfl, gp, er.mono lp, ?_⟩
  show Post G (RepV G) Wx σ (priv w p (.dK [])) (fk ρ w.W) _
  cases e1 : fk ρ w.W with
  | bad => rw [e1] at q; exact q
  | exc c fs Wo => rw [e1] at q; exact fun w' dd l g eW r => q w' dd (lp.trans l) g eW r
  | ok a Wo =>
    rw [e1] at q
    intro w1 av l1 g1 eW1 r1
    refine ⟨w1, ρ, rfl, g1, (er.mono lp).mono l1, ?_⟩
    show Post G (RepV G) Wx σ w1 (fv ρ w1.W) _
    rw [eW1]
    have q : Post G (RepV G) Wx σ w ((fv ρ Wo).bind fun b W2 => kk a b W2) Q := q
    cases e2 : fv ρ Wo with
    | bad => rw [e2] at q; exact q
    | exc c fs Wo2 => rw [e2] at q; exact fun w' dd l g eW r => q w' dd ((lp.trans l1).trans l) g eW r
    | ok b Wo2 =>
      rw [e2] at q
      have q : Post G (RepV G) Wx σ w (kk a b Wo2) Q := q
      intro w2 bv l2 g2 eW2 r2
      obtain ⟨u, lu, gu, hu, rfl, eW⟩ := unpriv gd hp rfl (l1.trans l2) g2
      have r1' := RepV.mono l2 _ _ r1
      have qu := Post.le q lu
      have eWu : u.W = Wo2 := eW2
      rw [← eWu] at qu
      cases a with
      | o i => rw [hk _ _ _ rfl] at qu; exact qu.elim
      | d x =>
        cases b with
        | o j => rw [hk _ _ _ rfl] at qu; exact qu.elim
        | d y =>
          cases ek : toKey x with
          | none => rw [hk _ _ _ (by show (toKey x).map _ = _; rw [ek]; rfl)] at qu; exact qu.elim
          | some key =>
            have ev : av = kV key := toKey_rep' (w := priv u p (.dK [])) r1' ek
            have rb : Rep G u y bv := Rep.monoS (w := priv u p (.dK [])) (w' := u) (fun _ _ h => h) _ _ r2
            subst ev
            refine ⟨upd_same, [(key, bv)], rfl, by simp, ?_⟩
            show Q (.ref p) (upd (upd u.H p (.dK [])) p (.dK [(key, bv)]))
            rw [upd_upd]
            exact hg x y key bv u p gu hu ek rb qu
theorem se_dic1 {ke ve : Expr} {fk fv : VL.Sem Vl} {pos : Pos} (hk : SE G X Wx ke fk) (hv : SE G X Wx ve fv) : SE G X Wx (.Dict [some ke] [ve] pos) (eDic1 fk fv) :=
  PE.imp (pe_disp (pps_cons hk hv pps_nil) rfl rfl (by simp) (by simp)) fun σ H Q hh => dic1_rd hh (fun a b W e => by rw [e]) fun x y key yv u p g hp ek r q => by
    have e1 : key1 (.d x) (.d y) = some (x, y) := by show (toKey x).map _ = _; rw [ek]; rfl
    rw [e1] at q
    exact post_push (x := .dic false [(x, y)]) g q hp (fun _ z => by cases z) fun w' l e => ⟨[(key, yv)], e, key, yv, [], rfl, ek, Rep.mono l _ _ r, rfl⟩
/-- {k: v} as data -/
theorem se_dic1N {ke ve : Expr} {fk fv : VL.Sem Vl} {pos : Pos} (hk : SE G X Wx ke fk) (hv : SE G X Wx ve fv) : SE G X Wx (.Dict [some ke] [ve] pos) (eDic1N fk fv) :=
  PE.imp (pe_disp (pps_cons hk hv pps_nil) rfl rfl (by simp) (by simp)) fun σ H Q hh => dic1_rd hh (fun a b W e => by rw [e]) fun x y key yv u p g hp ek r q => by
    have e1 : key1 (.d x) (.d y) = some (x, y) := by show (toKey x).map _ = _; rw [ek]; rfl
    rw [e1] at q
    exact want_new (z := .dic false [(x, y)]) (o := .dK [(key, yv)]) q.want g (fun _ z => by cases z) hp ⟨p, [(key, yv)], rfl, upd_same, key, yv, [], rfl, ek, Rep.mono (le_new g hp) _ _ r, rfl⟩
/-! ### [e for tg in it if ..] as a mutable list -/
def eLcO (own : List Nat) (p : TgP) (fi : VL.Sem (List D)) (t : VL.Sem Bool) (f : VL.Sem Vl) : VL.Sem Vl := eLcG (fun ys W => newObj (.lst ys) W) own p fi t f
theorem lcO_fin {u : Wd} {ys : List D} {vs : List V} {Dd : Addr} {Q : VK} (g : Good G u) (hu : u.H Dd = none) (r : Reps G u ys vs) (q : Post G (RepV G) Wx σ u (newObj (.lst ys) u.W) Q) : Q (.ref Dd) (upd u.H Dd (.lst vs)) :=
  post_push g q hu (fun _ z => by cases z) fun w' l e => ⟨vs, e, Reps.mono l _ _ r⟩
theorem se_lcO {elt tg iter : Expr} {ifs : List Expr} {scope : Scope} {own : List (Str × Nat)} {pos : Pos} {p : TgP} {fi : VL.Sem (List D)} {t : VL.Sem Bool} {f : VL.Sem Vl} (vc : VC G X k Wx) (hi : SI G X Wx tg iter fi) (ok : BlkOk X.N X.env.scope scope own)
    (hg : ∀ (s : Shared) (H : Hp) (C : Addr) (cl : List (Str × Addr)) (fp : List Addr), SG (X.blk s H scope (compEnvC scope cl C X.env) fp) tg p)
    (ht : ∀ (s : Shared) (H : Hp) (C : Addr) (cl : List (Str × Addr)) (fp : List Addr), STs G (X.blk s H scope (compEnvC scope cl C X.env) fp) (fun _ _ _ _ => False) ifs t)
    (he : ∀ (s : Shared) (H : Hp) (C : Addr) (cl : List (Str × Addr)) (fp : List Addr), SE G (X.blk s H scope (compEnvC scope cl C X.env) fp) (fun _ _ _ _ => False) elt f) (hsub : ∀ i ∈ slotsP p, i ∈ own.map (·.2) := by decide) (hs : ∀ x, foldedSetIterable iter X.env x = pure x := by intro _; rfl) :
    SE G X Wx (.ListComp elt [⟨tg, iter, ifs, 0⟩] scope pos) (eLcO (own.map (·.2)) p fi t f) :=
  PE.imp (pe_lc vc.calm vc.nd hi ok hg ht he hs) fun σ H Q hh => lc_rdG hsub (fun u ys vs Dd g hu r q => lcO_fin g hu r q) hh
theorem ss_setLcO {i : Nat} {y : Str} {py : Pos} {elt tg iter : Expr} {ifs : List Expr} {scope : Scope} {own : List (Str × Nat)} {pos spos : Pos} {p : TgP} {fi : VL.Sem (List D)} {t : VL.Sem Bool} {f : VL.Sem Vl} (vc : VC G X k Wx) (hi : SI G X Wx tg iter fi) (ok : BlkOk X.N X.env.scope scope own)
    (hg : ∀ (s : Shared) (H : Hp) (C : Addr) (cl : List (Str × Addr)) (fp : List Addr), SG (X.blk s H scope (compEnvC scope cl C X.env) fp) tg p)
    (ht : ∀ (s : Shared) (H : Hp) (C : Addr) (cl : List (Str × Addr)) (fp : List Addr), STs G (X.blk s H scope (compEnvC scope cl C X.env) fp) (fun _ _ _ _ => False) ifs t)
    (he : ∀ (s : Shared) (H : Hp) (C : Addr) (cl : List (Str × Addr)) (fp : List Addr), SE G (X.blk s H scope (compEnvC scope cl C X.env) fp) (fun _ _ _ _ => False) elt f) (hk : X.env.scope.kind = .function := by rfl) (hl : (py.line == pos.line) = true := by rfl)
    (hsc : (scope.names.any fun (n, k) => n == y && (k == .local || k == .cell)) = false := by decide +kernel) (hy : X.N[i]? = some y := by rfl) (hyl : X.env.scope.names.lookup y = some .local := by rfl)
    (hsub : ∀ i ∈ slotsP p, i ∈ own.map (·.2) := by decide) (hs : ∀ x, foldedSetIterable iter X.env x = pure x := by intro _; rfl) :
    SS G X Wx (.Assign [.Name y py] (.ListComp elt [⟨tg, iter, ifs, 0⟩] scope pos) spos) (sSet i (eLcO (own.map (·.2)) p fi t f)) :=
  PS.imp (ps_setLc (g := gRd X.K p) vc.calm vc.nd hy hyl (sw_true hk hyl hl hsc) hi ok hg ht he hs) fun D σ H hh => by
    refine lc_rdG (K := X.K) (mk := fun ys W => newObj (.lst ys) W) hsub (Q := fun x H1 => gName i x σ H1 D.nx) (fun u ys vs Dd g hu r q => lcO_fin (G := G) (Wx := Wx) (σ := σ) (Q := fun x H1 => gName i x σ H1 D.nx) g hu r q) ?_
    exact lift1 (R := RepV G) hh fun ρ w v a g er r p => p.nx g (er.set r)
theorem eLcO_ok {own : List Nat} {p : TgP} {fi : VL.Sem (List D)} {t : VL.Sem Bool} {f : VL.Sem Vl} {ρ : Rho} {W W1 W2 : List O} {ds ys : List D} (h : fi ρ W = .ok ds W1) (h2 : lcL p t f (wipeR ρ own) ds W1 = .ok ys W2) (hl : ds.length ≤ sizeLine) : eLcO own p fi t f ρ W = .ok (.o W2.length) (W2 ++ [.lst ys]) := by
  show ((fi ρ W).bind fun ds W1 => (noX (lcL p t f (wipeR ρ own) ds W1)).bind fun ys W2 => if ds.length ≤ sizeLine then newObj (.lst ys) W2 else .bad) = _
  rw [h, bind_ok, h2, noX_ok, bind_ok, if_pos hl]
  rfl
/-! ### [..] * n as a mutable list -/
def mulO (a b : Vl) (W : List O) : Res Vl := match a, b with
  | .d (.lst ds), .d (.int n) => if -(2 ^ 63) ≤ n ∧ n < 2 ^ 63 ∧ ds.length * n.toNat ≤ sizeLine then newObj (.lst ((List.replicate n.toNat ds).flatten)) W else .bad
  | _, _ => .bad
def eMulO (fa fb : VL.Sem Vl) : VL.Sem Vl := fun ρ W => (fa ρ W).bind fun a W1 => (fb ρ W1).bind fun b W2 => mulO a b W2
theorem se_mulO {a b : Expr} {fa fb : VL.Sem Vl} {pos : Pos} (ha : SE G X Wx a fa) (hb : SE G X Wx b fb) : SE G X Wx (.BinOp a .Mult b pos) (eMulO fa fb) :=
  PE.imp (pe_op op_rep ha hb) fun σ H Q hh => bin2 hh fun ρ w v u a b gd _ r1 r2 p => by
    unfold mulO at p
    split at p
    · rename_i ds n
      split at p
      · rename_i hc
        obtain ⟨a1, vs, rfl, h1, q1⟩ := RepV.now gd r1 (cont_d _ _)
        have ln := q1.length
        exact ⟨a1, n, vs, rfl, r2, h1, hc.1, hc.2.1, by rw [ln]; exact hc.2.2, fun p' hp => post_push gd p hp (fun _ z => by cases z) fun w' l e => ⟨_, e, rep_flat (Reps.mono l _ _ q1) _⟩⟩
      · exact p.elim
    · exact p.elim
end
end VL
set_option Elab.async false
set_option linter.all false
set_option maxRecDepth 100000
set_option maxHeartbeats 4000000
namespace VL
open PySem PySem.Spec PyProof.Rows L2
/-! ### dicts with keys of one kind -/
structure KeyF {κ : Type} (kf : κ → D) (kk : κ → Key) : Prop where
  to : ∀ k, toKey (kf k) = some (kk k)
  inj : ∀ a b, kk a = kk b → a = b
theorem keyI : KeyF D.int Sum.inl := ⟨fun _ => rfl, fun a b h => Sum.inl.inj h⟩
theorem keyS : KeyF D.str Sum.inr := ⟨fun _ => rfl, fun a b h => Sum.inr.inj h⟩
def dmap {κ β : Type} (kf : κ → D) (F : β → D) (B : List (κ × β)) : List (D × D) := B.map fun p => (kf p.1, F p.2)
section
variable {κ β : Type} [DecidableEq κ] {kf : κ → D} {kk : κ → Key} {F : β → D}
theorem dgetK_m (h : KeyF kf kk) (k : κ) : ∀ B : List (κ × β), dgetK (dmap kf F B) (kk k) = (B.lookup k).map F
  | [] => rfl
  | (a, v) :: B => by
    have ih := dgetK_m h k B
    unfold dgetK dmap at ih ⊢
    rw [List.map_cons, List.find?_cons]
    simp only [h.to]
    rw [List.lookup_cons]
    by_cases e : k = a
    · subst e
      simp
    · have e2 : decide (some (kk a) = some (kk k)) = false := decide_eq_false fun z => e (h.inj _ _ (Option.some.inj z)).symm
      rw [e2, beq_false_of_ne e]
      exact ih
theorem dget_m (h : KeyF kf kk) (k : κ) (B : List (κ × β)) : dget false (dmap kf F B) (kf k) = some ((B.lookup k).map F) := by
  show (toKey (kf k)).map _ = _
  rw [h.to, Option.map_some, dgetK_m h]
theorem idx_m (h : KeyF kf kk) {k : κ} {B : List (κ × β)} {v : β} (e : B.lookup k = some v) : idxS (.dic false (dmap kf F B)) (kf k) = some (F v) := by
  show (dget false (dmap kf F B) (kf k)).bind id = _
  rw [dget_m h, e]; rfl
theorem in_m (h : KeyF kf kk) (neg : Bool) (k : κ) (B : List (κ × β)) : inS neg (kf k) (.dic false (dmap kf F B)) = some (.bl (xor neg (B.lookup k).isSome)) := by
  show (dget false (dmap kf F B) (kf k)).map _ = _
  rw [dget_m h]
  cases B.lookup k <;> rfl
theorem lookup_mem (k : κ) : ∀ B : List (κ × β), (B.lookup k).isSome = decide (k ∈ B.map (·.1))
  | [] => by simp
  | (a, v) :: B => by
    rw [List.lookup_cons]
    by_cases e : k = a
    · subst e; simp
    · rw [beq_false_of_ne e, List.map_cons]
      simp only [lookup_mem k B, List.mem_cons, e, false_or]
theorem any_m (h : KeyF kf kk) (k : κ) : ∀ B : List (κ × β), ((dmap kf F B).any fun p => decide (toKey p.1 = some (kk k))) = decide (k ∈ B.map (·.1))
  | [] => rfl
  | (a, v) :: B => by
    have ih := any_m h k B
    unfold dmap at ih ⊢
    rw [List.map_cons, List.any_cons, ih]
    simp only [h.to, List.map_cons, List.mem_cons]
    by_cases e : k = a
    · subst e; simp
    · have e2 : decide (some (kk a) = some (kk k)) = false := decide_eq_false fun z => e (h.inj _ _ (Option.some.inj z)).symm
      rw [e2]
      simp [e]
/-- a dict as it is after a key is set -/
def putB (B : List (κ × β)) (k : κ) (v : β) : List (κ × β) := if k ∈ B.map (·.1) then B.map fun p => if p.1 = k then (p.1, v) else p else B ++ [(k, v)]
theorem dput_m (h : KeyF kf kk) (k : κ) (v : β) (B : List (κ × β)) : dput false (dmap kf F B) (kf k) (F v) = some (dmap kf F (putB B k v)) := by
  show (toKey (kf k)).map _ = _
  rw [h.to, Option.map_some]
  unfold dputK
  rw [any_m h]
  unfold putB
  by_cases c : k ∈ B.map (·.1)
  · rw [decide_eq_true c, if_pos rfl, if_pos c]
    congr 1
    unfold dmap
    rw [List.map_map, List.map_map]
    refine List.map_congr_left fun p _ => ?_
    simp only [Function.comp, h.to]
    by_cases e : p.1 = k
    · rw [if_pos e, if_pos (by rw [e])]
    · rw [if_neg e, if_neg fun z => e (h.inj _ _ (Option.some.inj z))]
  · rw [decide_eq_false c, if_neg (by decide), if_neg c]
    unfold dmap
    rw [List.map_append]; rfl
theorem putB_new {B : List (κ × β)} {k : κ} {v : β} (h : k ∉ B.map (·.1)) : putB B k v = B ++ [(k, v)] := if_neg h
theorem dkeys_m (B : List (κ × β)) : iterOf (.dic false (dmap kf F B)) = some ((B.map (·.1)).map kf) := by
  show some ((dmap kf F B).map (·.1)) = _
  unfold dmap
  rw [List.map_map, List.map_map]; rfl
end
theorem dmap_len {κ β : Type} {kf : κ → D} {F : β → D} {B : List (κ × β)} : (dmap kf F B).length = B.length := by unfold dmap; rw [List.length_map]
/-- a[k] = v on an object -/
theorem setW_dic {j : Nat} {W : List O} {kvs kvs' : List (D × D)} {t : Bool} {a y : D} (h : W[j]? = some (.dic t kvs)) (hl : kvs.length < 1000000) (hp : dput t kvs a y = some kvs') : setW (.o j) (.d a) (.d y) W = some (W.set j (.dic t kvs')) := by
  unfold setW
  simp only [h]
  rw [if_pos (by rw [sizeLine_eq]; omega), hp]; rfl
theorem setW_lst {j : Nat} {W : List O} {ds : List D} {i : Int} {y : D} (h : W[j]? = some (.lst ds)) (h0 : 0 ≤ i) (h1 : i < ds.length) : setW (.o j) (.d (.int i)) (.d y) W = some (W.set j (.lst (ds.set i.toNat y))) := by
  unfold setW
  simp only [h]
  unfold ixN
  rw [if_pos h0, if_pos (by omega)]; rfl
theorem sSub_ok {fe fo fi : VL.Sem Vl} {ρ : Rho} {W W1 W2 W3 W4 : List O} {e o i : Vl} (h1 : fe ρ W = .ok e W1) (h2 : fo ρ W1 = .ok o W2) (h3 : fi ρ W2 = .ok i W3) (h4 : setW o i e W3 = some W4) : sSub fe fo fi ρ W = .ok .nx ρ W4 := by
  rw [sSub_s, h1, liftS_ok, h2, liftS_ok, h3, liftS_ok, h4]
theorem cont_dic {j : Nat} {W : List O} {t : Bool} {kvs : List (D × D)} (h : W[j]? = some (.dic t kvs)) : cont W (.o j) = some (.dic t kvs) := by unfold cont; simp only [h]
/-- a loop that is walked as it stands -/
theorem whileF_t {t : VL.Sem Bool} {body : SemS} {n : Nat} {ρ ρ1 : Rho} {W W1 W2 : List O} (h : t ρ W = .ok true W1) (hb : body ρ W1 = .ok .nx ρ1 W2) : whileF t body (n + 1) ρ W = whileF t body n ρ1 W2 := by
  conv => lhs; unfold whileF
  rw [h, liftS_ok, if_pos rfl, hb, sbind_ok]
theorem whileF_f {t : VL.Sem Bool} {body : SemS} {n : Nat} {ρ : Rho} {W W1 : List O} (h : t ρ W = .ok false W1) : whileF t body (n + 1) ρ W = .ok .nx ρ W1 := by
  conv => lhs; unfold whileF
  rw [h, liftS_ok, if_neg (by decide)]
theorem pop0_ok {fo fe : VL.Sem Vl} {ρ : Rho} {W W1 : List O} {j : Nat} {x : D} {ds : List D} (h1 : fo ρ W = .ok (.o j) W1) (h2 : fe ρ W1 = .ok (.d (.int 0)) W1) (h3 : W1[j]? = some (.lst (x :: ds))) : eMeth isL mPop fo (aCons fe aNil) ρ W = .ok (.d x) (W1.set j (.lst ds)) := by
  rw [eMeth_s, h1, bind_ok]
  have : isL (.o j) W1 = true := by unfold isL cont; simp only [h3]
  rw [if_pos this, a1_ok h2, bind_ok]
  unfold mPop
  simp only [h3]
  rfl
theorem sFrz_run {ρ : Rho} {W : List O} {i j : Nat} {ds : List D} {f : SemS} (h : ρ[i]? = some (some (.o j))) (h2 : W[j]? = some (.lst ds)) : sFrz i f ρ W = f (ρ.set i (some (.d (.lst ds)))) (W.set j .dead) := by
  unfold sFrz
  simp only [h, h2, frzO]
theorem atI_mapn {α : Type} (F : α → D) (l : List α) {i : Nat} {a : α} (h : l[i]? = some a) : atI (l.map F) (i : Int) = some (F a) := by
  have hi := (List.getElem?_eq_some_iff.mp h).1
  rw [atI_map F l i (by omega) (by omega)]
  have := (List.getElem?_eq_some_iff.mp h).2
  simp only [Int.toNat_natCast, this]
end VL
set_option Elab.async false
set_option linter.all false
set_option maxRecDepth 100000
set_option maxHeartbeats 4000000
namespace VL
open PySem PySem.Spec PyProof.Rows L2
/-! ### a law that ends in True -/
def Ends (f : SemS) (ρ : Rho) (W : List O) : Prop := ∃ ρ' W', f ρ W = .ok (.rt (.d (.bl true))) ρ' W'
theorem Ends.seq {a f : SemS} {ρ ρ1 : Rho} {W W1 : List O} (h : a ρ W = .ok .nx ρ1 W1) (k : Ends f ρ1 W1) : Ends (sSeq a f) ρ W := by
  obtain ⟨ρ', W', e⟩ := k
  exact ⟨ρ', W', sSeq_ok h e⟩
theorem Ends.ret {f : VL.Sem Vl} {ρ : Rho} {W W1 : List O} (h : f ρ W = .ok (.d (.bl true)) W1) : Ends (sRet f) ρ W := ⟨ρ, W1, sRet_ok h⟩
theorem Ends.run {n : Nat} {f : SemS} {as : List Vl} {W : List O} (h : Ends f (as.map some ++ List.replicate (n - as.length) none) W) : ∃ W', runF n f as W = .ok (.d (.bl true)) W' := by
  obtain ⟨ρ', W', e⟩ := h
  exact ⟨_, runF_rt' e⟩
/-- a comprehension that draws what it keeps -/
theorem lc_drawn_f {α : Type} {p : TgP} {t : VL.Sem Bool} {f : VL.Sem Vl} {ρ : Rho} {R : List O → Prop} (F : α → D) (b : α → Rho) : ∀ (l : List α) (W : List O), R W → (∀ a ∈ l, ∀ W, R W → bindP p (F a) ρ = some (b a) ∧ ∃ q W', t (b a) W = .ok q W' ∧ R W' ∧ f (b a) W' = .ok (.d (F a)) W') →
    ∃ (ys : List α) (W' : List O), lcL p t f ρ (l.map F) W = .ok (ys.map F) W' ∧ ys.Sublist l ∧ R W'
  | [], W, h, _ => ⟨[], W, rfl, List.Sublist.slnil, h⟩
  | a :: l, W, h, hb => by
    obtain ⟨e1, q, W1, e2, h1, e3⟩ := hb a List.mem_cons_self W h
    obtain ⟨ys, W2, e4, sl, h2⟩ := lc_drawn_f F b l W1 h1 fun x hx => hb x (List.mem_cons_of_mem _ hx)
    rw [List.map_cons]
    unfold lcL
    rw [e1]
    simp only [e2, bind_ok]
    cases q with
    | false => exact ⟨ys, W2, by rw [if_neg Bool.false_ne_true]; exact e4, sl.cons a, h2⟩
    | true => exact ⟨a :: ys, W2, by simp only [if_true, e3, bind_ok, pureD_d, e4, List.map_cons], sl.cons₂ a, h2⟩
/-- [..] == [] of a filtered list -/
theorem isEmpty_filter {α β : Type} (q : α → Bool) (g : α → β) (l : List α) (h : ∀ a ∈ l, q a = false) : (l.filter q).map g = [] := by
  rw [List.filter_eq_nil_iff.mpr fun a ha => by rw [h a ha]; exact Bool.false_ne_true]; rfl
theorem neS_nil0 : neS (.lst []) (.lst []) = some (.bl false) := neS_nil (ps := []) rfl
theorem eqS_nil0 : eqS (.lst []) (.lst []) = some (.bl true) := eqS_nil (ps := []) rfl
theorem mkNil_ok {ρ : Rho} {W : List O} : eDisp mkLst aNil ρ W = .ok (.d (.lst [])) W := eDisp_ok aNil_ok rfl (mkLst_s (by decide))
theorem neS_strself (x : Str) : neS (.str x) (.str x) = some (.bl false) := neS_self (p := .str x) rfl (by simp [PyData.depth])
theorem eqS_strself (x : Str) : eqS (.str x) (.str x) = some (.bl true) := eqS_self (p := .str x) rfl (by simp [PyData.depth])
/-- a word and a number -/
theorem neS_wi (s : Str) (n : Int) : neS (.tup [.str s, .int n]) (.tup [.str s, .int n]) = some (.bl false) := neS_self (p := .tuple [.str s, .int n]) rfl (by simp [PyData.depth, PyData.depthAll])
/-- a word and a thing are shown -/
theorem repr_w {s : Str} {z : D} {p : PyData} {w d : Nat} (e : toPy z = some p) (h : Sm p w d) (hs : ∀ c ∈ s.cps.toList, c < 16 ^ 8) (hsz : s.cps.size ≤ 100) (hw : w ≤ 1000) (hd : d ≤ 50) : reprD (.tup [.str s, z]) = some (.str (PyData.tuple [.str s, p]).shown) := by
  have e2 : toPy (.tup [.str s, z]) = some (.tuple [.str s, p]) := by
    show (match toPy (.str s), toPyL [z] with | some p, some ps => some (p :: ps) | _, _ => none).map PyData.tuple = _
    show (match toPy (.str s), (match toPy z, toPyL [] with | some p, some ps => some (p :: ps) | _, _ => none) with | some p, some ps => some (p :: ps) | _, _ => none).map PyData.tuple = _
    rw [e]; rfl
  have h2 : Sm (.tuple [.str s, p]) 4000 51 := by
    refine (sm_tuple (w := 1000) (d := 50) fun x hx => ?_).mono (by simp) (by omega)
    rcases List.mem_cons.mp hx with rfl | hx
    · exact (sm_str hs).mono (by omega) (by omega)
    · obtain rfl := List.mem_singleton.mp hx; exact h.mono (by omega) (by omega)
  exact reprD_t e2 h2 (by omega) (by omega)
/-- the row's first object is not touched by an object behind -/
theorem RowE.get {s : List Int} {E W : List O} (h : RowE s E W) (i : Nat) : W[i + 1]? = E[i]? := by
  obtain ⟨p, sd, r, rfl, _⟩ := h; rfl
theorem RowE.set {s : List Int} {E W : List O} (h : RowE s E W) (i : Nat) (y : O) : RowE s (E.set i y) (W.set (i + 1) y) := by
  obtain ⟨p, sd, r, rfl, h⟩ := h
  exact ⟨p, sd, r, rfl, h⟩
end VL
set_option Elab.async false
set_option linter.all false
set_option maxRecDepth 100000
set_option maxHeartbeats 4000000
namespace K16
open PySem PySem.Spec PyProof.Rows L2 VL
def topS (i : Nat) : Stmt := PySem.Challenge.pw_ventways_k16_whole_ducts.main.body.getD i (.Pass ⟨0, 0, 0, 0⟩)
abbrev s_is_integer : Stmt := topS 1
abbrev N_is_integer : List Str := ["thing"]
theorem sc_is_integer : FnScope N_is_integer ["thing"] (defScope s_is_integer) := ⟨rfl, rfl, rfl, by decide +kernel, rfl, by decide +kernel, by decide +kernel⟩
abbrev s_is_within : Stmt := topS 2
abbrev N_is_within : List Str := ["thing", "least", "most"]
theorem sc_is_within : FnScope N_is_within ["thing", "least", "most"] (defScope s_is_within) := ⟨rfl, rfl, rfl, by decide +kernel, rfl, by decide +kernel, by decide +kernel⟩
abbrev s_is_row : Stmt := topS 3
abbrev N_is_row : List Str := ["thing"]
theorem sc_is_row : FnScope N_is_row ["thing"] (defScope s_is_row) := ⟨rfl, rfl, rfl, by decide +kernel, rfl, by decide +kernel, by decide +kernel⟩
abbrev s_is_tuple_of : Stmt := topS 4
abbrev N_is_tuple_of : List Str := ["thing", "many"]
theorem sc_is_tuple_of : FnScope N_is_tuple_of ["thing", "many"] (defScope s_is_tuple_of) := ⟨rfl, rfl, rfl, by decide +kernel, rfl, by decide +kernel, by decide +kernel⟩
abbrev s_check_ducts : Stmt := topS 14
abbrev N_check_ducts : List Str := ["ducts", "index", "duct", "one"]
theorem sc_check_ducts : FnScope N_check_ducts ["ducts"] (defScope s_check_ducts) := ⟨rfl, rfl, rfl, by decide +kernel, rfl, by decide +kernel, by decide +kernel⟩
abbrev s_check_ends : Stmt := topS 15
abbrev N_check_ends : List Str := ["ducts", "begin", "end"]
theorem sc_check_ends : FnScope N_check_ends ["ducts", "begin", "end"] (defScope s_check_ends) := ⟨rfl, rfl, rfl, by decide +kernel, rfl, by decide +kernel, by decide +kernel⟩
abbrev s_reach : Stmt := topS 16
abbrev N_reach : List Str := ["ducts", "flows", "begin", "before", "waiting", "here", "index", "one", "other", "most"]
theorem sc_reach : FnScope N_reach ["ducts", "flows", "begin"] (defScope s_reach) := ⟨rfl, rfl, rfl, by decide +kernel, rfl, by decide +kernel, by decide +kernel⟩
abbrev s_told_flows : Stmt := topS 17
abbrev N_told_flows : List Str := ["ducts", "begin", "end", "flows", "before", "way", "here", "more", "there", "_", "index", "step"]
theorem sc_told_flows : FnScope N_told_flows ["ducts", "begin", "end"] (defScope s_told_flows) := ⟨rfl, rfl, rfl, by decide +kernel, rfl, by decide +kernel, by decide +kernel⟩
abbrev s_most_air : Stmt := topS 18
abbrev N_most_air : List Str := ["ducts", "begin", "end", "flows", "amount", "duct", "flow"]
theorem sc_most_air : FnScope N_most_air ["ducts", "begin", "end"] (defScope s_most_air) := ⟨rfl, rfl, rfl, by decide +kernel, rfl, by decide +kernel, by decide +kernel⟩
abbrev s_narrow : Stmt := topS 19
abbrev N_narrow : List Str := ["ducts", "begin", "end"]
theorem sc_narrow : FnScope N_narrow ["ducts", "begin", "end"] (defScope s_narrow) := ⟨rfl, rfl, rfl, by decide +kernel, rfl, by decide +kernel, by decide +kernel⟩
abbrev s_let_through : Stmt := topS 20
abbrev N_let_through : List Str := ["ducts", "side", "one", "other", "most"]
theorem sc_let_through : FnScope N_let_through ["ducts", "side"] (defScope s_let_through) := ⟨rfl, rfl, rfl, by decide +kernel, rfl, by decide +kernel, by decide +kernel⟩
abbrev s__law_taken : Stmt := topS 22
abbrev N__law_taken : List Str := ["row", "many", "found", "cell"]
theorem sc__law_taken : FnScope N__law_taken ["row", "many"] (defScope s__law_taken) := ⟨rfl, rfl, rfl, by decide +kernel, rfl, by decide +kernel, by decide +kernel⟩
abbrev s__law_pick : Stmt := topS 23
abbrev N__law_pick : List Str := ["row", "some"]
theorem sc__law_pick : FnScope N__law_pick ["row", "some"] (defScope s__law_pick) := ⟨rfl, rfl, rfl, by decide +kernel, rfl, by decide +kernel, by decide +kernel⟩
abbrev s__law_alike : Stmt := topS 24
abbrev N__law_alike : List Str := ["found", "due", "k", "key"]
theorem sc__law_alike : FnScope N__law_alike ["found", "due"] (defScope s__law_alike) := ⟨rfl, rfl, rfl, by decide +kernel, rfl, by decide +kernel, by decide +kernel⟩
abbrev s__law_unlike : Stmt := topS 25
abbrev N__law_unlike : List Str := ["things", "found", "one"]
theorem sc__law_unlike : FnScope N__law_unlike ["things"] (defScope s__law_unlike) := ⟨rfl, rfl, rfl, by decide +kernel, rfl, by decide +kernel, by decide +kernel⟩
abbrev s__law_subsets : Stmt := topS 26
abbrev N__law_subsets : List Str := ["many", "found", "k", "size", "one"]
theorem sc__law_subsets : FnScope N__law_subsets ["many"] (defScope s__law_subsets) := ⟨rfl, rfl, rfl, by decide +kernel, rfl, by decide +kernel, by decide +kernel⟩
abbrev s__law_through : Stmt := topS 27
abbrev N__law_through : List Str := ["ducts", "side", "one", "other", "most"]
theorem sc__law_through : FnScope N__law_through ["ducts", "side"] (defScope s__law_through) := ⟨rfl, rfl, rfl, by decide +kernel, rfl, by decide +kernel, by decide +kernel⟩
abbrev s__law_refused : Stmt := topS 28
abbrev N__law_refused : List Str := ["ask", "e"]
theorem sc__law_refused : FnScope N__law_refused ["ask"] (defScope s__law_refused) := ⟨rfl, rfl, rfl, by decide +kernel, rfl, by decide +kernel, by decide +kernel⟩
abbrev s_law : Stmt := topS 29
abbrev N_law : List Str := ["script", "row", "is_great", "ducts", "many", "k", "one", "begin", "end", "amount", "flows", "sums", "other", "most", "flow", "side", "rest", "part", "told", "turn", "some", "bad", "odd", "ask", "none", "at"]
theorem sc_law : FnScope N_law ["script"] (defScope s_law) := ⟨rfl, rfl, rfl, by decide +kernel, rfl, by decide +kernel, by decide +kernel⟩
structure Tx (K : PySem.W.Frag) (mg : Str → Option Value) (G : Gm) (fd : Nat → FuncData) (fI P0 : Addr) : Prop where
  GK : G.K = K
  GT : G.T = [(P0, ("law.<locals>.<lambda>" : Str))]
  z_all : mg "all" = none
  z_bool : mg "bool" = none
  z_dict : mg "dict" = none
  z_enumerate : mg "enumerate" = none
  z_int : mg "int" = none
  z_isinstance : mg "isinstance" = none
  z_len : mg "len" = none
  z_list : mg "list" = none
  z_min : mg "min" = none
  z_range : mg "range" = none
  z_repr : mg "repr" = none
  z_sorted : mg "sorted" = none
  z_str : mg "str" = none
  z_sum : mg "sum" = none
  z_tuple : mg "tuple" = none
  z_zip : mg "zip" = none
  c_MOST_AIR : ∃ t, mg "MOST_AIR" = some (.int 100 t)
  c_MOST_DUCTS : ∃ t, mg "MOST_DUCTS" = some (.int 30 t)
  c_MOST_JUNCTION : ∃ t, mg "MOST_JUNCTION" = some (.int 9 t)
  m_is_integer : mg "is_integer" = some (.ref (G.fa 0))
  F_is_integer : Fun K "is_integer" "is_integer" s_is_integer (G.fa 0) (fd 0)
  B_is_integer : L2.Binds K (fd 0) ["thing"] []
  m_is_within : mg "is_within" = some (.ref (G.fa 1))
  F_is_within : Fun K "is_within" "is_within" s_is_within (G.fa 1) (fd 1)
  B_is_within : L2.Binds K (fd 1) ["thing", "least", "most"] []
  m_is_row : mg "is_row" = some (.ref (G.fa 2))
  F_is_row : Fun K "is_row" "is_row" s_is_row (G.fa 2) (fd 2)
  B_is_row : L2.Binds K (fd 2) ["thing"] []
  m_is_tuple_of : mg "is_tuple_of" = some (.ref (G.fa 3))
  F_is_tuple_of : Fun K "is_tuple_of" "is_tuple_of" s_is_tuple_of (G.fa 3) (fd 3)
  B_is_tuple_of : L2.Binds K (fd 3) ["thing", "many"] []
  m_check_ducts : mg "check_ducts" = some (.ref (G.fa 4))
  F_check_ducts : Fun K "check_ducts" "check_ducts" s_check_ducts (G.fa 4) (fd 4)
  B_check_ducts : L2.Binds K (fd 4) ["ducts"] []
  m_check_ends : mg "check_ends" = some (.ref (G.fa 5))
  F_check_ends : Fun K "check_ends" "check_ends" s_check_ends (G.fa 5) (fd 5)
  B_check_ends : L2.Binds K (fd 5) ["ducts", "begin", "end"] []
  m_reach : mg "reach" = some (.ref (G.fa 6))
  F_reach : Fun K "reach" "reach" s_reach (G.fa 6) (fd 6)
  B_reach : L2.Binds K (fd 6) ["ducts", "flows", "begin"] []
  m_told_flows : mg "told_flows" = some (.ref (G.fa 7))
  F_told_flows : Fun K "told_flows" "told_flows" s_told_flows (G.fa 7) (fd 7)
  B_told_flows : L2.Binds K (fd 7) ["ducts", "begin", "end"] []
  m_most_air : mg "most_air" = some (.ref (G.fa 8))
  F_most_air : Fun K "most_air" "most_air" s_most_air (G.fa 8) (fd 8)
  B_most_air : L2.Binds K (fd 8) ["ducts", "begin", "end"] []
  m_narrow : mg "narrow" = some (.ref (G.fa 9))
  F_narrow : Fun K "narrow" "narrow" s_narrow (G.fa 9) (fd 9)
  B_narrow : L2.Binds K (fd 9) ["ducts", "begin", "end"] []
  m_let_through : mg "let_through" = some (.ref (G.fa 10))
  F_let_through : Fun K "let_through" "let_through" s_let_through (G.fa 10) (fd 10)
  B_let_through : L2.Binds K (fd 10) ["ducts", "side"] []
  m__law_taken : mg "_law_taken" = some (.ref (G.fa 11))
  F__law_taken : Fun K "_law_taken" "_law_taken" s__law_taken (G.fa 11) (fd 11)
  B__law_taken : L2.Binds K (fd 11) ["row", "many"] []
  m__law_pick : mg "_law_pick" = some (.ref (G.fa 12))
  F__law_pick : Fun K "_law_pick" "_law_pick" s__law_pick (G.fa 12) (fd 12)
  B__law_pick : L2.Binds K (fd 12) ["row", "some"] []
  m__law_alike : mg "_law_alike" = some (.ref (G.fa 13))
  F__law_alike : Fun K "_law_alike" "_law_alike" s__law_alike (G.fa 13) (fd 13)
  B__law_alike : L2.Binds K (fd 13) ["found", "due"] []
  m__law_unlike : mg "_law_unlike" = some (.ref (G.fa 14))
  F__law_unlike : Fun K "_law_unlike" "_law_unlike" s__law_unlike (G.fa 14) (fd 14)
  B__law_unlike : L2.Binds K (fd 14) ["things"] []
  m__law_subsets : mg "_law_subsets" = some (.ref (G.fa 15))
  F__law_subsets : Fun K "_law_subsets" "_law_subsets" s__law_subsets (G.fa 15) (fd 15)
  B__law_subsets : L2.Binds K (fd 15) ["many"] []
  m__law_through : mg "_law_through" = some (.ref (G.fa 16))
  F__law_through : Fun K "_law_through" "_law_through" s__law_through (G.fa 16) (fd 16)
  B__law_through : L2.Binds K (fd 16) ["ducts", "side"] []
  m__law_refused : mg "_law_refused" = some (.ref (G.fa 17))
  F__law_refused : Fun K "_law_refused" "_law_refused" s__law_refused (G.fa 17) (fd 17)
  B__law_refused : L2.Binds K (fd 17) ["ask"] []
  x_BadDucts : ExAt G K mg fI "BadDucts" 2
  x_BadJunction : ExAt G K mg fI "BadJunction" 1
  x_BadSide : ExAt G K mg fI "BadSide" 3
  init : ∀ (P : Program) (w : World) (base : Heap), InitAt P w K mg base fI
  inj : ∀ q ∈ ([(2, "ducts"), (1, "junction"), (3, "side")] : List (Nat × Str)), ∀ c, G.ca c = G.ca q.1 → c = q.1
  fdv : ∀ c s, ([(2, "ducts"), (1, "junction"), (3, "side")] : List (Nat × Str)).lookup c = some s → (G.fd c)[0]? = some ("value" : Str)
  xf_BadDucts : XfC K (G.ca 2)
  xf_BadJunction : XfC K (G.ca 1)
  xf_BadSide : XfC K (G.ca 3)
  exm : ∀ C s, (hsA G [(2, "ducts"), (1, "junction"), (3, "side")]).lookup C = some s → ∀ q ∈ hsA G [(2, "ducts"), (1, "junction"), (3, "side")], PySem.W.exmOne K (.ref C) (.ref q.1) = some (decide (C = q.1))
abbrev hsR : List (Nat × Str) := [(2, "ducts"), (1, "junction"), (3, "side")]
section
variable {P : Program} {w : World} {K : PySem.W.Frag} {mg : Str → Option Value} {base : Heap} {G : Gm} {fd : Nat → FuncData} {fI P0 : Addr}
theorem giv_ref (T : Tx K mg G fd fI P0) (X : Cx) (hK : X.K = K) (hm : X.mg = mg) : ∀ cdv, LamX.GivesTo X N__law_refused "_law_refused" (defScope s__law_refused) (G.fa 17) cdv (defBody s__law_refused) "ask" (X.env.qual ++ "<lambda>") (TTref (hsA G hsR)) := fun cdv => by
  subst hK; subst hm
  exact refused_gives (i := 1) (n := "e") (by decide +kernel) rfl rfl (by decide) (by decide) (RHs.cons rfl T.x_BadDucts.hm T.xf_BadDucts T.x_BadDucts.hv (RHs.cons rfl T.x_BadJunction.hm T.xf_BadJunction T.x_BadJunction.hv (RHs.cons rfl T.x_BadSide.hm T.xf_BadSide T.x_BadSide.hv RHs.nil))) T.exm (fun _ => rfl)
def F_is_integer : SemS :=
  (sRet (eAnd (eCall isiD (aCons (eVar 0) (aCons (eC (.ty .int)) aNil))) (eUn notS (eCall isiD (aCons (eVar 0) (aCons (eC (.ty .bool)) aNil))))))
def G_is_integer := runF 1 F_is_integer
theorem ok_is_integer (T : Tx K mg G fd fI P0) : FnOk P w K mg base (L2.CX P w) 1 (G.fa 0) (fd 0) ["thing"] (spI G 1 G_is_integer) := by
  refine fn_mkI T.F_is_integer sc_is_integer T.GK.symm (fun cdv A outer s H E vc => ?_)
  exact (ss_one (ss_ret (se_and (se_callB cs_isi rfl T.z_isinstance (by decide +kernel) (sa_cons (sv 0) (sa_cons (se_ty (t := .int) rfl T.z_int (by decide +kernel)) sa_nil))) (se_one (se_not (se_callB cs_isi rfl T.z_isinstance (by decide +kernel) (sa_cons (sv 0) (sa_cons (se_ty (t := .bool) rfl T.z_bool (by decide +kernel)) sa_nil))))))))
def F_is_within : SemS :=
  (sRet (eAnd (eFun G_is_integer (aCons (eVar 0) aNil)) (eChain leS leS (eVar 1) (eVar 0) (eVar 2))))
def G_is_within := runF 3 F_is_within
theorem ok_is_within (T : Tx K mg G fd fI P0) : FnOk P w K mg base (L2.CX P w) 2 (G.fa 1) (fd 1) ["thing", "least", "most"] (spI G 3 G_is_within) := by
  refine fn_mkI T.F_is_within sc_is_within T.GK.symm (fun cdv A outer s H E vc => ?_)
  exact (ss_one (ss_ret (se_and (se_call vc (ok_is_integer T) (by decide) rfl T.m_is_integer T.F_is_integer.kp T.B_is_integer (sa_cons (sv 0) sa_nil) (hsz := (len_cons len_nil))) (se_one (se_chain os_le os_le (sv 1) (sv 0) (sv 2))))))
def F_is_row : SemS :=
  (sRet (eCall isiD (aCons (eVar 0) (aCons (eDisp mkTup (aCons (eC (.ty .list)) (aCons (eC (.ty .tuple)) aNil))) aNil))))
def G_is_row := runF 1 F_is_row
theorem ok_is_row (T : Tx K mg G fd fI P0) : FnOk P w K mg base (L2.CX P w) 1 (G.fa 2) (fd 2) ["thing"] (spI G 1 G_is_row) := by
  refine fn_mkI T.F_is_row sc_is_row T.GK.symm (fun cdv A outer s H E vc => ?_)
  exact (ss_one (ss_ret (se_callB cs_isi rfl T.z_isinstance (by decide +kernel) (sa_cons (sv 0) (sa_cons (se_tup (sa_cons (se_ty (t := .list) rfl T.z_list (by decide +kernel)) (sa_cons (se_ty (t := .tuple) rfl T.z_tuple (by decide +kernel)) sa_nil))) sa_nil)))))
def F_is_tuple_of : SemS :=
  (sRet (eAnd (eCall isiD (aCons (eVar 0) (aCons (eC (.ty .tuple)) aNil))) (eBin eqS (eCall (one lenD) (aCons (eVar 0) aNil)) (eVar 1))))
def G_is_tuple_of := runF 2 F_is_tuple_of
theorem ok_is_tuple_of (T : Tx K mg G fd fI P0) : FnOk P w K mg base (L2.CX P w) 1 (G.fa 3) (fd 3) ["thing", "many"] (spI G 2 G_is_tuple_of) := by
  refine fn_mkI T.F_is_tuple_of sc_is_tuple_of T.GK.symm (fun cdv A outer s H E vc => ?_)
  exact (ss_one (ss_ret (se_and (se_callB cs_isi rfl T.z_isinstance (by decide +kernel) (sa_cons (sv 0) (sa_cons (se_ty (t := .tuple) rfl T.z_tuple (by decide +kernel)) sa_nil))) (se_one (se_cmp (os_eq vc) (se_callB (cs_len vc.eK) rfl T.z_len (by decide +kernel) (sa_cons (sv 0) sa_nil)) (sv 1))))))
def F_check_ducts : SemS :=
  (sSeq (sIf (tOrD (tNotD (tTru1 (eFun G_is_row (aCons (eVar 0) aNil)))) (tOf (eBin gtS (eCall (one lenD) (aCons (eVar 0) aNil)) (eC (.int 30)))))
  (sRaise 2 (aCons (eUn negS (eC (.int 1))) aNil))
  sNx)
  (sFor (.tp [(.nm 1), (.nm 2)]) (iEnum (aCons (eVar 0) aNil))
  (sSeq (sIf (tOrD (tNotD (tTru1 (eFun G_is_tuple_of (aCons (eVar 2) (aCons (eC (.int 3)) aNil))))) (tNotD (tTru1 (eCall (one allD) (aCons (eLc [3] (.nm 3) (iSeq (eSlice (eVar 2) oNone (oSome (eC (.int 2))))) tTru (eFun G_is_within (aCons (eVar 3) (aCons (eC (.int 0)) (aCons (eC (.int 9)) aNil))))) aNil)))))
  (sRaise 2 (aCons (eVar 1) aNil))
  sNx)
  (sIf (tOrD (tOf (eBin eqS (eBin idxS (eVar 2) (eC (.int 0))) (eBin idxS (eVar 2) (eC (.int 1))))) (tNotD (tTru1 (eFun G_is_within (aCons (eBin idxS (eVar 2) (eC (.int 2))) (aCons (eC (.int 0)) (aCons (eC (.int 100)) aNil)))))))
  (sRaise 2 (aCons (eVar 1) aNil))
  sNx))))
def G_check_ducts := runF 4 F_check_ducts
theorem ok_check_ducts (T : Tx K mg G fd fI P0) : FnOk P w K mg base (L2.CX P w) 3 (G.fa 4) (fd 4) ["ducts"] (spI G 1 G_check_ducts) := by
  refine fn_mkI T.F_check_ducts sc_check_ducts T.GK.symm (fun cdv A outer s H E vc => ?_)
  exact (ss_cons (ss_if (st_w (sw_or (st_not (st_tru (se_call vc (ok_is_row T) (by decide) rfl T.m_is_row T.F_is_row.kp T.B_is_row (sa_cons (sv 0) sa_nil) (hsz := (len_cons len_nil))))) (sw_or1 (st_cmp os_gt (se_callB (cs_len vc.eK) rfl T.z_len (by decide +kernel) (sa_cons (sv 0) sa_nil)) (se_gintE rfl T.c_MOST_DUCTS)))))
  (ss_one (ss_raise vc (T.init _ _ _) T.x_BadDucts rfl (sa_cons (se_un us_neg se_int) sa_nil)))
  ss_nil)
  (ss_one (ss_for vc (si_enum rfl T.z_enumerate (sa_cons (sv 0) sa_nil)) (sg_tup vc.calm (sg_cons (sg_name (i := 1) vc.nd) (sg_cons (sg_name (i := 2) vc.nd) sg_nil)))
  (ss_cons (ss_if (st_w (sw_or (st_not (st_tru (se_call vc (ok_is_tuple_of T) (by decide) rfl T.m_is_tuple_of T.F_is_tuple_of.kp T.B_is_tuple_of (sa_cons (sv 2) (sa_cons se_int sa_nil)) (hsz := (len_cons (len_cons len_nil)))))) (sw_or1 (st_not (st_tru (se_callB (cs_all vc) rfl T.z_all (by decide +kernel) (sa_cons (se_lc (own := [("one", 3)]) vc (si_seq (se_slice vc (sv 2) so_none (so_some se_int))) (blkOk_by (by kernel_rfl)) (fun s1 H1 C1 cl1 fp1 => (sg_name (i := 3) (vc.blk s1 H1 _ _ fp1).nd)) (fun s1 H1 C1 cl1 fp1 => sts_nil) (fun s1 H1 C1 cl1 fp1 => (se_call (vc.blk s1 H1 _ _ fp1) (ok_is_within T) (by decide) rfl T.m_is_within T.F_is_within.kp T.B_is_within (sa_cons (sv 3) (sa_cons se_int (sa_cons (se_gintE rfl T.c_MOST_JUNCTION) sa_nil))) (hsz := (len_cons (len_cons (len_cons len_nil))))))) sa_nil)))))))
  (ss_one (ss_raise vc (T.init _ _ _) T.x_BadDucts rfl (sa_cons (sv 1) sa_nil)))
  ss_nil)
  (ss_one (ss_if (st_w (sw_or (st_cmp (os_eq vc) (se_idx vc (sv 2) se_int) (se_idx vc (sv 2) se_int)) (sw_or1 (st_not (st_tru (se_call vc (ok_is_within T) (by decide) rfl T.m_is_within T.F_is_within.kp T.B_is_within (sa_cons (se_idx vc (sv 2) se_int) (sa_cons se_int (sa_cons (se_gintE rfl T.c_MOST_AIR) sa_nil))) (hsz := (len_cons (len_cons (len_cons len_nil))))))))))
  (ss_one (ss_raise vc (T.init _ _ _) T.x_BadDucts rfl (sa_cons (sv 1) sa_nil)))
  ss_nil))))))
def F_check_ends : SemS :=
  (sSeq (sExpr (eFun G_check_ducts (aCons (eVar 0) aNil)))
  (sSeq (sIf (tNotD (tTru1 (eFun G_is_within (aCons (eVar 1) (aCons (eC (.int 0)) (aCons (eC (.int 9)) aNil))))))
  (sRaise 1 (aCons (eVar 1) aNil))
  sNx)
  (sIf (tOrD (tNotD (tTru1 (eFun G_is_within (aCons (eVar 2) (aCons (eC (.int 0)) (aCons (eC (.int 9)) aNil)))))) (tOf (eBin eqS (eVar 2) (eVar 1))))
  (sRaise 1 (aCons (eVar 2) aNil))
  sNx)))
def G_check_ends := runF 3 F_check_ends
theorem ok_check_ends (T : Tx K mg G fd fI P0) : FnOk P w K mg base (L2.CX P w) 4 (G.fa 5) (fd 5) ["ducts", "begin", "end"] (spI G 3 G_check_ends) := by
  refine fn_mkI T.F_check_ends sc_check_ends T.GK.symm (fun cdv A outer s H E vc => ?_)
  exact (ss_cons (ss_expr (se_call vc (ok_check_ducts T) (by decide) rfl T.m_check_ducts T.F_check_ducts.kp T.B_check_ducts (sa_cons (sv 0) sa_nil) (hsz := (len_cons len_nil))))
  (ss_cons (ss_if (st_not (st_tru (se_call vc (ok_is_within T) (by decide) rfl T.m_is_within T.F_is_within.kp T.B_is_within (sa_cons (sv 1) (sa_cons se_int (sa_cons (se_gintE rfl T.c_MOST_JUNCTION) sa_nil))) (hsz := (len_cons (len_cons (len_cons len_nil)))))))
  (ss_one (ss_raise vc (T.init _ _ _) T.x_BadJunction rfl (sa_cons (sv 1) sa_nil)))
  ss_nil)
  (ss_one (ss_if (st_w (sw_or (st_not (st_tru (se_call vc (ok_is_within T) (by decide) rfl T.m_is_within T.F_is_within.kp T.B_is_within (sa_cons (sv 2) (sa_cons se_int (sa_cons (se_gintE rfl T.c_MOST_JUNCTION) sa_nil))) (hsz := (len_cons (len_cons (len_cons len_nil))))))) (sw_or1 (st_cmp (os_eq vc) (sv 2) (sv 1)))))
  (ss_one (ss_raise vc (T.init _ _ _) T.x_BadJunction rfl (sa_cons (sv 2) sa_nil)))
  ss_nil))))
def F_reach : SemS :=
  (sSeq (sSet 3 (eDic1 (eVar 2) (eC .non)))
  (sSeq (sSet 4 (eLstO (aCons (eVar 2) aNil)))
  (sSeq (sWhile 1000 (tTru1 (eVar 4))
  (sSeq (sSet 5 (eMeth isL mPop (eVar 4) (aCons (eC (.int 0)) aNil)))
  (sFor (.tp [(.nm 6), (.tp [(.nm 7), (.nm 8), (.nm 9)])]) (iEnum (aCons (eVar 0) aNil))
  (sSeq (sIf (tAndD (tOf (eBin eqS (eVar 7) (eVar 5))) (tAndD (tOf (eBin (inS true) (eVar 8) (eVar 3))) (tOf (eBin ltS (eBin idxS (eVar 1) (eVar 6)) (eVar 9)))))
  (sSeq (sSub (eDisp mkTup (aCons (eVar 7) (aCons (eVar 6) (aCons (eBin subS (eVar 9) (eBin idxS (eVar 1) (eVar 6))) aNil)))) (eVar 3) (eVar 8))
  (sExpr (eMeth isL mAppend (eVar 4) (aCons (eVar 8) aNil))))
  sNx)
  (sIf (tAndD (tOf (eBin eqS (eVar 8) (eVar 5))) (tAndD (tOf (eBin (inS true) (eVar 7) (eVar 3))) (tOf (eBin gtS (eBin idxS (eVar 1) (eVar 6)) (eC (.int 0))))))
  (sSeq (sSub (eDisp mkTup (aCons (eVar 8) (aCons (eVar 6) (aCons (eBin idxS (eVar 1) (eVar 6)) aNil)))) (eVar 3) (eVar 7))
  (sExpr (eMeth isL mAppend (eVar 4) (aCons (eVar 7) aNil))))
  sNx)))))
  (sRet (eVar 3)))))
def G_reach := runF 10 F_reach
theorem ok_reach (T : Tx K mg G fd fI P0) : FnOk P w K mg base (L2.CX P w) 1 (G.fa 6) (fd 6) ["ducts", "flows", "begin"] (spI G 3 G_reach) := by
  refine fn_mkI T.F_reach sc_reach T.GK.symm (fun cdv A outer s H E vc => ?_)
  exact (ss_cons (ss_set (i := 3) vc (se_dic1 (sv 2) se_non))
  (ss_cons (ss_set (i := 4) vc (se_lstO (sa_cons (sv 2) sa_nil)))
  (ss_cons (ss_while vc (st_tru (sv 4))
  (ss_cons (ss_set (i := 5) vc (se_meth F.plainAttrs_list F.slot_list_pop F.type_list_pop ms_pop chk_list (sv 4) (sa_cons se_int sa_nil)))
  (ss_one (ss_for vc (si_enum rfl T.z_enumerate (sa_cons (sv 0) sa_nil)) (sg_tup vc.calm (sg_cons (sg_name (i := 6) vc.nd) (sg_cons (sg_tup vc.calm (sg_cons (sg_name (i := 7) vc.nd) (sg_cons (sg_name (i := 8) vc.nd) (sg_cons (sg_name (i := 9) vc.nd) sg_nil)))) sg_nil)))
  (ss_cons (ss_if (st_w (sw_and (st_cmp (os_eq vc) (sv 7) (sv 5)) (sw_and (st_cmp (os_notIn vc) (sv 8) (sv 3)) (sw_and1 (st_cmp os_lt (se_idx vc (sv 1) (sv 6)) (sv 9))))))
  (ss_cons (ss_sub vc (se_tup (sa_cons (sv 7) (sa_cons (sv 6) (sa_cons (se_bin os_sub (sv 9) (se_idx vc (sv 1) (sv 6))) sa_nil)))) (sv 3) (sv 8))
  (ss_one (ss_expr (se_meth F.plainAttrs_list F.slot_list_append F.type_list_append ms_append chk_list (sv 4) (sa_cons (sv 8) sa_nil)))))
  ss_nil)
  (ss_one (ss_if (st_w (sw_and (st_cmp (os_eq vc) (sv 8) (sv 5)) (sw_and (st_cmp (os_notIn vc) (sv 7) (sv 3)) (sw_and1 (st_cmp os_gt (se_idx vc (sv 1) (sv 6)) se_int)))))
  (ss_cons (ss_sub vc (se_tup (sa_cons (sv 8) (sa_cons (sv 6) (sa_cons (se_idx vc (sv 1) (sv 6)) sa_nil)))) (sv 3) (sv 7))
  (ss_one (ss_expr (se_meth F.plainAttrs_list F.slot_list_append F.type_list_append ms_append chk_list (sv 4) (sa_cons (sv 7) sa_nil)))))
  ss_nil)))))))
  (ss_one (ss_ret (sv 3))))))
def F_told_flows : SemS :=
  (sSeq (sSet 3 (eLcO [9] (.nm 9) (iSeq (eVar 0)) tTru (eC (.int 0))))
  (sSeq (sSet 4 (eFun G_reach (aCons (eVar 0) (aCons (eVar 3) (aCons (eVar 1) aNil)))))
  (sSeq (sWhile 5000 (tOf (eBin (inS false) (eVar 2) (eVar 4)))
  (sSeq (sSet 5 (eLstO aNil))
  (sSeq (sSet 6 (eVar 2))
  (sSeq (sWhile 5000 (tOf (eBin (isS true) (eBin idxS (eVar 4) (eVar 6)) (eC .non)))
  (sSeq (sExpr (eMeth isL mAppend (eVar 5) (aCons (eDisp mkTup (aCons (eVar 6) (aCons (eBin idxS (eVar 4) (eVar 6)) aNil))) aNil)))
  (sSet 6 (eBin idxS (eBin idxS (eVar 4) (eVar 6)) (eC (.int 0))))))
  (sFrz 5 (sSeq (sSet 7 (eCall (one min1D) (aCons (eLc [9, 11] (.tp [(.nm 9), (.nm 11)]) (iSeq (eVar 5)) tTru (eBin idxS (eVar 11) (eC (.int 2)))) aNil)))
  (sSeq (sFor (.tp [(.nm 8), (.tp [(.nm 9), (.nm 10), (.nm 9)])]) (iSeq (eVar 5))
  (sAugS (eVar 3) (eVar 10) iaddS (eIf (tOf (eBin eqS (eBin idxS (eBin idxS (eVar 0) (eVar 10)) (eC (.int 1))) (eVar 8))) (eVar 7) (eUn negS (eVar 7)))))
  (sSet 4 (eFun G_reach (aCons (eVar 0) (aCons (eVar 3) (aCons (eVar 1) aNil))))))))))))
  (sRet (eVar 3)))))
def G_told_flows := runF 12 F_told_flows
theorem ok_told_flows (T : Tx K mg G fd fI P0) : FnOk P w K mg base (L2.CX P w) 2 (G.fa 7) (fd 7) ["ducts", "begin", "end"] (spI G 3 G_told_flows) := by
  refine fn_mkI T.F_told_flows sc_told_flows T.GK.symm (fun cdv A outer s H E vc => ?_)
  exact (ss_cons (ss_setLcO (i := 3) (own := [("_", 9)]) vc (si_seq (sv 0)) (blkOk_by (by kernel_rfl)) (fun s1 H1 C1 cl1 fp1 => (sg_name (i := 9) (vc.blk s1 H1 _ _ fp1).nd)) (fun s1 H1 C1 cl1 fp1 => sts_nil) (fun s1 H1 C1 cl1 fp1 => se_int))
  (ss_cons (ss_set (i := 4) vc (se_call vc (ok_reach T) (by decide) rfl T.m_reach T.F_reach.kp T.B_reach (sa_cons (sv 0) (sa_cons (sv 3) (sa_cons (sv 1) sa_nil))) (hsz := (len_cons (len_cons (len_cons len_nil))))))
  (ss_cons (ss_while vc (st_cmp (os_in vc) (sv 2) (sv 4))
  (ss_cons (ss_set (i := 5) vc (se_lstO sa_nil))
  (ss_cons (ss_set (i := 6) vc (sv 2))
  (ss_cons (ss_while vc (st_cmp os_isNot (se_idx vc (sv 4) (sv 6)) se_non)
  (ss_cons (ss_expr (se_meth F.plainAttrs_list F.slot_list_append F.type_list_append ms_append chk_list (sv 5) (sa_cons (se_tup (sa_cons (sv 6) (sa_cons (se_idx vc (sv 4) (sv 6)) sa_nil))) sa_nil)))
  (ss_one (ss_set (i := 6) vc (se_idx vc (se_idx vc (sv 4) (sv 6)) se_int)))))
  (ss_frz (i := 5) (ss_cons (ss_set (i := 7) vc (se_callB (cs_min1 vc) rfl T.z_min (by decide +kernel) (sa_cons (se_lc (own := [("_", 9), ("step", 11)]) vc (si_seq (sv 5)) (blkOk_by (by kernel_rfl)) (fun s1 H1 C1 cl1 fp1 => (sg_tup (vc.blk s1 H1 _ _ fp1).calm (sg_cons (sg_name (i := 9) (vc.blk s1 H1 _ _ fp1).nd) (sg_cons (sg_name (i := 11) (vc.blk s1 H1 _ _ fp1).nd) sg_nil)))) (fun s1 H1 C1 cl1 fp1 => sts_nil) (fun s1 H1 C1 cl1 fp1 => (se_idx (vc.blk s1 H1 _ _ fp1) (sv 11) se_int))) sa_nil)))
  (ss_cons (ss_for vc (si_seq (sv 5)) (sg_tup vc.calm (sg_cons (sg_name (i := 8) vc.nd) (sg_cons (sg_tup vc.calm (sg_cons (sg_name (i := 9) vc.nd) (sg_cons (sg_name (i := 10) vc.nd) (sg_cons (sg_name (i := 9) vc.nd) sg_nil)))) sg_nil)))
  (ss_one (ss_augS vc is_add (sv 3) (sv 10) (se_if (st_cmp (os_eq vc) (se_idx vc (se_idx vc (sv 0) (sv 10)) se_int) (sv 8)) (sv 7) (se_un us_neg (sv 7))))))
  (ss_one (ss_set (i := 4) vc (se_call vc (ok_reach T) (by decide) rfl T.m_reach T.F_reach.kp T.B_reach (sa_cons (sv 0) (sa_cons (sv 3) (sa_cons (sv 1) sa_nil))) (hsz := (len_cons (len_cons (len_cons len_nil))))))))))))))
  (ss_one (ss_ret (sv 3))))))
def F_most_air : SemS :=
  (sSeq (sExpr (eFun G_check_ends (aCons (eVar 0) (aCons (eVar 1) (aCons (eVar 2) aNil)))))
  (sSeq (sSet 3 (eFun G_told_flows (aCons (eVar 0) (aCons (eVar 1) (aCons (eVar 2) aNil)))))
  (sSeq (sSet 4 (eCall (one sumD) (aCons (eLc [5, 6] (.tp [(.nm 5), (.nm 6)]) (iZip (aCons (eVar 0) (aCons (eVar 3) aNil))) (tOf (eBin eqS (eBin idxS (eVar 5) (eC (.int 0))) (eVar 1))) (eVar 6)) aNil)))
  (sRet (eDisp mkTup (aCons (eBin subS (eVar 4) (eCall (one sumD) (aCons (eLc [5, 6] (.tp [(.nm 5), (.nm 6)]) (iZip (aCons (eVar 0) (aCons (eVar 3) aNil))) (tOf (eBin eqS (eBin idxS (eVar 5) (eC (.int 1))) (eVar 1))) (eVar 6)) aNil))) (aCons (eCall (one tupleD) (aCons (eVar 3) aNil)) aNil)))))))
def G_most_air := runF 7 F_most_air
theorem ok_most_air (T : Tx K mg G fd fI P0) : FnOk P w K mg base (L2.CX P w) 5 (G.fa 8) (fd 8) ["ducts", "begin", "end"] (spI G 3 G_most_air) := by
  refine fn_mkI T.F_most_air sc_most_air T.GK.symm (fun cdv A outer s H E vc => ?_)
  exact (ss_cons (ss_expr (se_call vc (ok_check_ends T) (by decide) rfl T.m_check_ends T.F_check_ends.kp T.B_check_ends (sa_cons (sv 0) (sa_cons (sv 1) (sa_cons (sv 2) sa_nil))) (hsz := (len_cons (len_cons (len_cons len_nil))))))
  (ss_cons (ss_set (i := 3) vc (se_call vc (ok_told_flows T) (by decide) rfl T.m_told_flows T.F_told_flows.kp T.B_told_flows (sa_cons (sv 0) (sa_cons (sv 1) (sa_cons (sv 2) sa_nil))) (hsz := (len_cons (len_cons (len_cons len_nil))))))
  (ss_cons (ss_set (i := 4) vc (se_callB (cs_sum vc) rfl T.z_sum (by decide +kernel) (sa_cons (se_lc (own := [("duct", 5), ("flow", 6)]) vc (si_zip rfl T.z_zip (sa_cons (sv 0) (sa_cons (sv 3) sa_nil))) (blkOk_by (by kernel_rfl)) (fun s1 H1 C1 cl1 fp1 => (sg_tup (vc.blk s1 H1 _ _ fp1).calm (sg_cons (sg_name (i := 5) (vc.blk s1 H1 _ _ fp1).nd) (sg_cons (sg_name (i := 6) (vc.blk s1 H1 _ _ fp1).nd) sg_nil)))) (fun s1 H1 C1 cl1 fp1 => (sts_one (st_cmp (os_eq (vc.blk s1 H1 _ _ fp1)) (se_idx (vc.blk s1 H1 _ _ fp1) (sv 5) se_int) (sv 1)))) (fun s1 H1 C1 cl1 fp1 => (sv 6))) sa_nil)))
  (ss_one (ss_ret (se_tup (sa_cons (se_bin os_sub (sv 4) (se_callB (cs_sum vc) rfl T.z_sum (by decide +kernel) (sa_cons (se_lc (own := [("duct", 5), ("flow", 6)]) vc (si_zip rfl T.z_zip (sa_cons (sv 0) (sa_cons (sv 3) sa_nil))) (blkOk_by (by kernel_rfl)) (fun s1 H1 C1 cl1 fp1 => (sg_tup (vc.blk s1 H1 _ _ fp1).calm (sg_cons (sg_name (i := 5) (vc.blk s1 H1 _ _ fp1).nd) (sg_cons (sg_name (i := 6) (vc.blk s1 H1 _ _ fp1).nd) sg_nil)))) (fun s1 H1 C1 cl1 fp1 => (sts_one (st_cmp (os_eq (vc.blk s1 H1 _ _ fp1)) (se_idx (vc.blk s1 H1 _ _ fp1) (sv 5) se_int) (sv 1)))) (fun s1 H1 C1 cl1 fp1 => (sv 6))) sa_nil))) (sa_cons (se_callTy cs_tuple rfl T.z_tuple (by decide +kernel) (sa_cons (sv 3) sa_nil)) sa_nil))))))))
def F_narrow : SemS :=
  (sSeq (sExpr (eFun G_check_ends (aCons (eVar 0) (aCons (eVar 1) (aCons (eVar 2) aNil)))))
  (sRet (eCall (one tupleD) (aCons (eCall (one sortedD) (aCons (eFun G_reach (aCons (eVar 0) (aCons (eFun G_told_flows (aCons (eVar 0) (aCons (eVar 1) (aCons (eVar 2) aNil)))) (aCons (eVar 1) aNil)))) aNil)) aNil))))
def G_narrow := runF 3 F_narrow
theorem ok_narrow (T : Tx K mg G fd fI P0) : FnOk P w K mg base (L2.CX P w) 5 (G.fa 9) (fd 9) ["ducts", "begin", "end"] (spI G 3 G_narrow) := by
  refine fn_mkI T.F_narrow sc_narrow T.GK.symm (fun cdv A outer s H E vc => ?_)
  exact (ss_cons (ss_expr (se_call vc (ok_check_ends T) (by decide) rfl T.m_check_ends T.F_check_ends.kp T.B_check_ends (sa_cons (sv 0) (sa_cons (sv 1) (sa_cons (sv 2) sa_nil))) (hsz := (len_cons (len_cons (len_cons len_nil))))))
  (ss_one (ss_ret (se_callTy cs_tuple rfl T.z_tuple (by decide +kernel) (sa_cons (se_callB (cs_sorted vc) rfl T.z_sorted (by decide +kernel) (sa_cons (se_call vc (ok_reach T) (by decide) rfl T.m_reach T.F_reach.kp T.B_reach (sa_cons (sv 0) (sa_cons (se_call vc (ok_told_flows T) (by decide) rfl T.m_told_flows T.F_told_flows.kp T.B_told_flows (sa_cons (sv 0) (sa_cons (sv 1) (sa_cons (sv 2) sa_nil))) (hsz := (len_cons (len_cons (len_cons len_nil))))) (sa_cons (sv 1) sa_nil))) (hsz := (len_cons (len_cons (len_cons len_nil))))) sa_nil)) sa_nil)))))
def F_let_through : SemS :=
  (sSeq (sExpr (eFun G_check_ducts (aCons (eVar 0) aNil)))
  (sSeq (sIf (tOrD (tNotD (tTru1 (eCall isiD (aCons (eVar 1) (aCons (eC (.ty .tuple)) aNil))))) (tNotD (tTru1 (eCall (one allD) (aCons (eLc [2] (.nm 2) (iSeq (eVar 1)) tTru (eFun G_is_within (aCons (eVar 2) (aCons (eC (.int 0)) (aCons (eC (.int 9)) aNil))))) aNil)))))
  (sRaise 3 (aCons (eVar 1) aNil))
  sNx)
  (sSeq (sIf (tNotD (tTru1 (eCall (one allD) (aCons (eLc [2, 3] (.tp [(.nm 2), (.nm 3)]) (iZip (aCons (eVar 1) (aCons (eSlice (eVar 1) (oSome (eC (.int 1))) oNone) aNil))) tTru (eBin ltS (eVar 2) (eVar 3))) aNil))))
  (sRaise 3 (aCons (eVar 1) aNil))
  sNx)
  (sRet (eCall (one sumD) (aCons (eLc [2, 3, 4] (.tp [(.nm 2), (.nm 3), (.nm 4)]) (iSeq (eVar 0)) (tAndD (tOf (eBin (inS false) (eVar 2) (eVar 1))) (tOf (eBin (inS true) (eVar 3) (eVar 1)))) (eVar 4)) aNil))))))
def G_let_through := runF 5 F_let_through
theorem ok_let_through (T : Tx K mg G fd fI P0) : FnOk P w K mg base (L2.CX P w) 4 (G.fa 10) (fd 10) ["ducts", "side"] (spI G 2 G_let_through) := by
  refine fn_mkI T.F_let_through sc_let_through T.GK.symm (fun cdv A outer s H E vc => ?_)
  exact (ss_cons (ss_expr (se_call vc (ok_check_ducts T) (by decide) rfl T.m_check_ducts T.F_check_ducts.kp T.B_check_ducts (sa_cons (sv 0) sa_nil) (hsz := (len_cons len_nil))))
  (ss_cons (ss_if (st_w (sw_or (st_not (st_tru (se_callB cs_isi rfl T.z_isinstance (by decide +kernel) (sa_cons (sv 1) (sa_cons (se_ty (t := .tuple) rfl T.z_tuple (by decide +kernel)) sa_nil))))) (sw_or1 (st_not (st_tru (se_callB (cs_all vc) rfl T.z_all (by decide +kernel) (sa_cons (se_lc (own := [("one", 2)]) vc (si_seq (sv 1)) (blkOk_by (by kernel_rfl)) (fun s1 H1 C1 cl1 fp1 => (sg_name (i := 2) (vc.blk s1 H1 _ _ fp1).nd)) (fun s1 H1 C1 cl1 fp1 => sts_nil) (fun s1 H1 C1 cl1 fp1 => (se_call (vc.blk s1 H1 _ _ fp1) (ok_is_within T) (by decide) rfl T.m_is_within T.F_is_within.kp T.B_is_within (sa_cons (sv 2) (sa_cons se_int (sa_cons (se_gintE rfl T.c_MOST_JUNCTION) sa_nil))) (hsz := (len_cons (len_cons (len_cons len_nil))))))) sa_nil)))))))
  (ss_one (ss_raise vc (T.init _ _ _) T.x_BadSide rfl (sa_cons (sv 1) sa_nil)))
  ss_nil)
  (ss_cons (ss_if (st_not (st_tru (se_callB (cs_all vc) rfl T.z_all (by decide +kernel) (sa_cons (se_lc (own := [("one", 2), ("other", 3)]) vc (si_zip rfl T.z_zip (sa_cons (sv 1) (sa_cons (se_slice vc (sv 1) (so_some se_int) so_none) sa_nil))) (blkOk_by (by kernel_rfl)) (fun s1 H1 C1 cl1 fp1 => (sg_tup (vc.blk s1 H1 _ _ fp1).calm (sg_cons (sg_name (i := 2) (vc.blk s1 H1 _ _ fp1).nd) (sg_cons (sg_name (i := 3) (vc.blk s1 H1 _ _ fp1).nd) sg_nil)))) (fun s1 H1 C1 cl1 fp1 => sts_nil) (fun s1 H1 C1 cl1 fp1 => (se_cmp os_lt (sv 2) (sv 3)))) sa_nil))))
  (ss_one (ss_raise vc (T.init _ _ _) T.x_BadSide rfl (sa_cons (sv 1) sa_nil)))
  ss_nil)
  (ss_one (ss_ret (se_callB (cs_sum vc) rfl T.z_sum (by decide +kernel) (sa_cons (se_lc (own := [("one", 2), ("other", 3), ("most", 4)]) vc (si_seq (sv 0)) (blkOk_by (by kernel_rfl)) (fun s1 H1 C1 cl1 fp1 => (sg_tup (vc.blk s1 H1 _ _ fp1).calm (sg_cons (sg_name (i := 2) (vc.blk s1 H1 _ _ fp1).nd) (sg_cons (sg_name (i := 3) (vc.blk s1 H1 _ _ fp1).nd) (sg_cons (sg_name (i := 4) (vc.blk s1 H1 _ _ fp1).nd) sg_nil))))) (fun s1 H1 C1 cl1 fp1 => (sts_one (st_w (sw_and (st_cmp (os_in (vc.blk s1 H1 _ _ fp1)) (sv 2) (sv 1)) (sw_and1 (st_cmp (os_notIn (vc.blk s1 H1 _ _ fp1)) (sv 3) (sv 1))))))) (fun s1 H1 C1 cl1 fp1 => (sv 4))) sa_nil)))))))
def F__law_taken : SemS :=
  (sSeq (sIf (tOf (eBin gtS (eBin idxS (eVar 0) (eC (.int 3))) (eC (.int 0))))
  (sSeq (sSet 2 (eBin modS (eCall (one intD) (aCons (eBin idxS (eVar 0) (eC (.int 3))) aNil)) (eVar 1)))
  (sSeq (sSub (eBin fdivS (eBin idxS (eVar 0) (eC (.int 3))) (eVar 1)) (eVar 0) (eC (.int 3)))
  (sRet (eVar 2))))
  sNx)
  (sSeq (sSub (eBin addS (eBin idxS (eVar 0) (eC (.int 1))) (eC (.int 1))) (eVar 0) (eC (.int 1)))
  (sSeq (sIf (tOf (eBin gtS (eBin idxS (eVar 0) (eC (.int 1))) (eCall (one lenD) (aCons (eBin idxS (eVar 0) (eC (.int 0))) aNil))))
  (sSeq (sSub (eBin modS (eCall (one intD) (aCons (eBin addS (eBin mulS (eBin idxS (eVar 0) (eC (.int 2))) (eC (.int 48271))) (eC (.int 11))) aNil)) (eC (.int 2147483647))) (eVar 0) (eC (.int 2)))
  (sRet (eBin modS (eCall (one intD) (aCons (eBin fdivS (eBin idxS (eVar 0) (eC (.int 2))) (eC (.int 7))) aNil)) (eVar 1))))
  sNx)
  (sSeq (sSet 3 (eBin idxS (eBin idxS (eVar 0) (eC (.int 0))) (eBin subS (eBin idxS (eVar 0) (eC (.int 1))) (eC (.int 1)))))
  (sSeq (sSub (eBin modS (eCall (one intD) (aCons (eBin addS (eBin addS (eBin mulS (eBin idxS (eVar 0) (eC (.int 2))) (eC (.int 48271))) (eVar 3)) (eC (.int 11))) aNil)) (eC (.int 2147483647))) (eVar 0) (eC (.int 2)))
  (sSeq (sIf (tOf (eBin geS (eVar 3) (eBin powS (eC (.int 10)) (eC (.int 18)))))
  (sSub (eBin fdivS (eVar 3) (eVar 1)) (eVar 0) (eC (.int 3)))
  sNx)
  (sRet (eBin modS (eCall (one intD) (aCons (eVar 3) aNil)) (eVar 1)))))))))
def G__law_taken := runF 4 F__law_taken
theorem ok__law_taken (T : Tx K mg G fd fI P0) : FnOk P w K mg base (L2.CX P w) 1 (G.fa 11) (fd 11) ["row", "many"] (spI G 2 G__law_taken) := by
  refine fn_mkI T.F__law_taken sc__law_taken T.GK.symm (fun cdv A outer s H E vc => ?_)
  exact (ss_cons (ss_if (st_cmp os_gt (se_idx vc (sv 0) se_int) se_int)
  (ss_cons (ss_set (i := 2) vc (se_bin os_mod (se_callTy cs_int rfl T.z_int (by decide +kernel) (sa_cons (se_idx vc (sv 0) se_int) sa_nil)) (sv 1)))
  (ss_cons (ss_sub vc (se_bin os_fdiv (se_idx vc (sv 0) se_int) (sv 1)) (sv 0) se_int)
  (ss_one (ss_ret (sv 2)))))
  ss_nil)
  (ss_cons (ss_sub vc (se_bin os_add (se_idx vc (sv 0) se_int) se_int) (sv 0) se_int)
  (ss_cons (ss_if (st_cmp os_gt (se_idx vc (sv 0) se_int) (se_callB (cs_len vc.eK) rfl T.z_len (by decide +kernel) (sa_cons (se_idx vc (sv 0) se_int) sa_nil)))
  (ss_cons (ss_sub vc (se_bin os_mod (se_callTy cs_int rfl T.z_int (by decide +kernel) (sa_cons (se_bin os_add (se_bin os_mul (se_idx vc (sv 0) se_int) se_int) se_int) sa_nil)) se_int) (sv 0) se_int)
  (ss_one (ss_ret (se_bin os_mod (se_callTy cs_int rfl T.z_int (by decide +kernel) (sa_cons (se_bin os_fdiv (se_idx vc (sv 0) se_int) se_int) sa_nil)) (sv 1)))))
  ss_nil)
  (ss_cons (ss_set (i := 3) vc (se_idx vc (se_idx vc (sv 0) se_int) (se_bin os_sub (se_idx vc (sv 0) se_int) se_int)))
  (ss_cons (ss_sub vc (se_bin os_mod (se_callTy cs_int rfl T.z_int (by decide +kernel) (sa_cons (se_bin os_add (se_bin os_add (se_bin os_mul (se_idx vc (sv 0) se_int) se_int) (sv 3)) se_int) sa_nil)) se_int) (sv 0) se_int)
  (ss_cons (ss_if (st_cmp os_ge (sv 3) (se_bin os_pow se_int se_int))
  (ss_one (ss_sub vc (se_bin os_fdiv (sv 3) (sv 1)) (sv 0) se_int))
  ss_nil)
  (ss_one (ss_ret (se_bin os_mod (se_callTy cs_int rfl T.z_int (by decide +kernel) (sa_cons (sv 3) sa_nil)) (sv 1))))))))))
def F__law_pick : SemS :=
  (sRet (eBin idxS (eVar 1) (eFun G__law_taken (aCons (eVar 0) (aCons (eCall (one lenD) (aCons (eVar 1) aNil)) aNil)))))
def G__law_pick := runF 2 F__law_pick
theorem ok__law_pick (T : Tx K mg G fd fI P0) : FnOk P w K mg base (L2.CX P w) 2 (G.fa 12) (fd 12) ["row", "some"] (spI G 2 G__law_pick) := by
  refine fn_mkI T.F__law_pick sc__law_pick T.GK.symm (fun cdv A outer s H E vc => ?_)
  exact (ss_one (ss_ret (se_idx vc (sv 1) (se_call vc (ok__law_taken T) (by decide) rfl T.m__law_taken T.F__law_taken.kp T.B__law_taken (sa_cons (sv 0) (sa_cons (se_callB (cs_len vc.eK) rfl T.z_len (by decide +kernel) (sa_cons (sv 1) sa_nil)) sa_nil)) (hsz := (len_cons (len_cons len_nil)))))))
def F__law_alike (g : List Vl → List O → Res Vl) : SemS :=
  (sSeq (sIf (tTru1 (eCall isiD (aCons (eVar 1) (aCons (eDisp mkTup (aCons (eC (.ty .tuple)) (aCons (eC (.ty .list)) aNil))) aNil))))
  (sSeq (sIf (tOrD (tNotD (tTru1 (eCall isiD (aCons (eVar 0) (aCons (eDisp mkTup (aCons (eC (.ty .tuple)) (aCons (eC (.ty .list)) aNil))) aNil))))) (tOf (eBin neS (eCall isiD (aCons (eVar 0) (aCons (eC (.ty .list)) aNil))) (eCall isiD (aCons (eVar 1) (aCons (eC (.ty .list)) aNil))))))
  (sRet (eC (.bl false)))
  sNx)
  (sSeq (sIf (tOf (eBin neS (eCall (one lenD) (aCons (eVar 0) aNil)) (eCall (one lenD) (aCons (eVar 1) aNil))))
  (sRet (eC (.bl false)))
  sNx)
  (sRet (eBin eqS (eLc [2] (.nm 2) (iRng1 (aCons (eCall (one lenD) (aCons (eVar 1) aNil)) aNil)) (tNotD (tTru1 (eFun g (aCons (eBin idxS (eVar 0) (eVar 2)) (aCons (eBin idxS (eVar 1) (eVar 2)) aNil))))) (eVar 2)) (eDisp mkLst aNil)))))
  sNx)
  (sSeq (sIf (tTru1 (eCall isiD (aCons (eVar 1) (aCons (eC (.ty .dict)) aNil))))
  (sSeq (sIf (tOrD (tNotD (tTru1 (eCall isiD (aCons (eVar 0) (aCons (eC (.ty .dict)) aNil))))) (tOf (eBin neS (eCall (one listD) (aCons (eVar 0) aNil)) (eCall (one listD) (aCons (eVar 1) aNil)))))
  (sRet (eC (.bl false)))
  sNx)
  (sRet (eBin eqS (eLc [3] (.nm 3) (iSeq (eVar 1)) (tNotD (tTru1 (eFun g (aCons (eBin idxS (eVar 0) (eVar 3)) (aCons (eBin idxS (eVar 1) (eVar 3)) aNil))))) (eVar 3)) (eDisp mkLst aNil))))
  sNx)
  (sSeq (sIf (tOrD (tOf (eBin (isS false) (eVar 1) (eC .non))) (tTru1 (eCall isiD (aCons (eVar 1) (aCons (eC (.ty .str)) aNil)))))
  (sRet (eAnd (eBin eqS (eVar 0) (eVar 1)) (eBin eqS (eCall isiD (aCons (eVar 0) (aCons (eC (.ty .str)) aNil))) (eCall isiD (aCons (eVar 1) (aCons (eC (.ty .str)) aNil))))))
  sNx)
  (sRet (eAnd (eCall isiD (aCons (eVar 0) (aCons (eC (.ty .int)) aNil))) (eAnd (eBin eqS (eCall isiD (aCons (eVar 0) (aCons (eC (.ty .bool)) aNil))) (eCall isiD (aCons (eVar 1) (aCons (eC (.ty .bool)) aNil)))) (eBin eqS (eVar 0) (eVar 1))))))))
def G__law_alike : Nat → List Vl → List O → Res Vl
  | 0 => fun _ _ => .bad
  | n + 1 => runF 4 (F__law_alike (G__law_alike n))
theorem ok__law_alike (T : Tx K mg G fd fI P0) : ∀ n : Nat, FnOk P w K mg base (L2.CX P w) (n + 2) (G.fa 13) (fd 13) ["found", "due"] (spI G 2 (G__law_alike n))
  | 0 => fn_bad fun _ _ => rfl
  | n + 1 => by
    have ih := ok__law_alike T n
    refine fn_mkI T.F__law_alike sc__law_alike T.GK.symm (fun cdv A outer s H E vc => ?_)
    exact (ss_cons (ss_if (st_tru (se_callB cs_isi rfl T.z_isinstance (by decide +kernel) (sa_cons (sv 1) (sa_cons (se_tup (sa_cons (se_ty (t := .tuple) rfl T.z_tuple (by decide +kernel)) (sa_cons (se_ty (t := .list) rfl T.z_list (by decide +kernel)) sa_nil))) sa_nil))))
  (ss_cons (ss_if (st_w (sw_or (st_not (st_tru (se_callB cs_isi rfl T.z_isinstance (by decide +kernel) (sa_cons (sv 0) (sa_cons (se_tup (sa_cons (se_ty (t := .tuple) rfl T.z_tuple (by decide +kernel)) (sa_cons (se_ty (t := .list) rfl T.z_list (by decide +kernel)) sa_nil))) sa_nil))))) (sw_or1 (st_cmp (os_ne vc) (se_callB cs_isi rfl T.z_isinstance (by decide +kernel) (sa_cons (sv 0) (sa_cons (se_ty (t := .list) rfl T.z_list (by decide +kernel)) sa_nil))) (se_callB cs_isi rfl T.z_isinstance (by decide +kernel) (sa_cons (sv 1) (sa_cons (se_ty (t := .list) rfl T.z_list (by decide +kernel)) sa_nil)))))))
  (ss_one (ss_ret se_bl))
  ss_nil)
  (ss_cons (ss_if (st_cmp (os_ne vc) (se_callB (cs_len vc.eK) rfl T.z_len (by decide +kernel) (sa_cons (sv 0) sa_nil)) (se_callB (cs_len vc.eK) rfl T.z_len (by decide +kernel) (sa_cons (sv 1) sa_nil)))
  (ss_one (ss_ret se_bl))
  ss_nil)
  (ss_one (ss_ret (se_cmp (os_eq vc) (se_lc (own := [("k", 2)]) vc (si_rng1 rfl T.z_range (sa_cons (se_callB (cs_len vc.eK) rfl T.z_len (by decide +kernel) (sa_cons (sv 1) sa_nil)) sa_nil)) (blkOk_by (by kernel_rfl)) (fun s1 H1 C1 cl1 fp1 => (sg_name (i := 2) (vc.blk s1 H1 _ _ fp1).nd)) (fun s1 H1 C1 cl1 fp1 => (sts_one (st_not (st_tru (se_call (vc.blk s1 H1 _ _ fp1) ih (by omega) rfl T.m__law_alike T.F__law_alike.kp T.B__law_alike (sa_cons (se_idx (vc.blk s1 H1 _ _ fp1) (sv 0) (sv 2)) (sa_cons (se_idx (vc.blk s1 H1 _ _ fp1) (sv 1) (sv 2)) sa_nil)) (hsz := (len_cons (len_cons len_nil)))))))) (fun s1 H1 C1 cl1 fp1 => (sv 2))) (se_lst sa_nil))))))
  ss_nil)
  (ss_cons (ss_if (st_tru (se_callB cs_isi rfl T.z_isinstance (by decide +kernel) (sa_cons (sv 1) (sa_cons (se_ty (t := .dict) rfl T.z_dict (by decide +kernel)) sa_nil))))
  (ss_cons (ss_if (st_w (sw_or (st_not (st_tru (se_callB cs_isi rfl T.z_isinstance (by decide +kernel) (sa_cons (sv 0) (sa_cons (se_ty (t := .dict) rfl T.z_dict (by decide +kernel)) sa_nil))))) (sw_or1 (st_cmp (os_ne vc) (se_callTy (cs_list vc.eK) rfl T.z_list (by decide +kernel) (sa_cons (sv 0) sa_nil)) (se_callTy (cs_list vc.eK) rfl T.z_list (by decide +kernel) (sa_cons (sv 1) sa_nil))))))
  (ss_one (ss_ret se_bl))
  ss_nil)
  (ss_one (ss_ret (se_cmp (os_eq vc) (se_lc (own := [("key", 3)]) vc (si_seq (sv 1)) (blkOk_by (by kernel_rfl)) (fun s1 H1 C1 cl1 fp1 => (sg_name (i := 3) (vc.blk s1 H1 _ _ fp1).nd)) (fun s1 H1 C1 cl1 fp1 => (sts_one (st_not (st_tru (se_call (vc.blk s1 H1 _ _ fp1) ih (by omega) rfl T.m__law_alike T.F__law_alike.kp T.B__law_alike (sa_cons (se_idx (vc.blk s1 H1 _ _ fp1) (sv 0) (sv 3)) (sa_cons (se_idx (vc.blk s1 H1 _ _ fp1) (sv 1) (sv 3)) sa_nil)) (hsz := (len_cons (len_cons len_nil)))))))) (fun s1 H1 C1 cl1 fp1 => (sv 3))) (se_lst sa_nil)))))
  ss_nil)
  (ss_cons (ss_if (st_w (sw_or (st_cmp os_is (sv 1) se_non) (sw_or1 (st_tru (se_callB cs_isi rfl T.z_isinstance (by decide +kernel) (sa_cons (sv 1) (sa_cons (se_ty (t := .str) rfl T.z_str (by decide +kernel)) sa_nil)))))))
  (ss_one (ss_ret (se_and (se_cmp (os_eq vc) (sv 0) (sv 1)) (se_one (se_cmp (os_eq vc) (se_callB cs_isi rfl T.z_isinstance (by decide +kernel) (sa_cons (sv 0) (sa_cons (se_ty (t := .str) rfl T.z_str (by decide +kernel)) sa_nil))) (se_callB cs_isi rfl T.z_isinstance (by decide +kernel) (sa_cons (sv 1) (sa_cons (se_ty (t := .str) rfl T.z_str (by decide +kernel)) sa_nil))))))))
  ss_nil)
  (ss_one (ss_ret (se_and (se_callB cs_isi rfl T.z_isinstance (by decide +kernel) (sa_cons (sv 0) (sa_cons (se_ty (t := .int) rfl T.z_int (by decide +kernel)) sa_nil))) (se_and (se_cmp (os_eq vc) (se_callB cs_isi rfl T.z_isinstance (by decide +kernel) (sa_cons (sv 0) (sa_cons (se_ty (t := .bool) rfl T.z_bool (by decide +kernel)) sa_nil))) (se_callB cs_isi rfl T.z_isinstance (by decide +kernel) (sa_cons (sv 1) (sa_cons (se_ty (t := .bool) rfl T.z_bool (by decide +kernel)) sa_nil)))) (se_one (se_cmp (os_eq vc) (sv 0) (sv 1))))))))))
def F__law_unlike : SemS :=
  (sSeq (sSet 1 (eLstO aNil))
  (sSeq (sFor (.nm 2) (iSeq (eCall (one sortedD) (aCons (eCall (one listD) (aCons (eVar 0) aNil)) aNil)))
  (sIf (tOrD (tOf (eBin eqS (eVar 1) (eDisp mkLst aNil))) (tOf (eBin neS (eBin idxS (eVar 1) (eUn negS (eC (.int 1)))) (eVar 2))))
  (sExpr (eMeth isL mAppend (eVar 1) (aCons (eVar 2) aNil)))
  sNx))
  (sRet (eVar 1))))
def G__law_unlike := runF 3 F__law_unlike
theorem ok__law_unlike (T : Tx K mg G fd fI P0) : FnOk P w K mg base (L2.CX P w) 1 (G.fa 14) (fd 14) ["things"] (spI G 1 G__law_unlike) := by
  refine fn_mkI T.F__law_unlike sc__law_unlike T.GK.symm (fun cdv A outer s H E vc => ?_)
  exact (ss_cons (ss_set (i := 1) vc (se_lstO sa_nil))
  (ss_cons (ss_for vc (si_seq (se_callB (cs_sorted vc) rfl T.z_sorted (by decide +kernel) (sa_cons (se_callTy (cs_list vc.eK) rfl T.z_list (by decide +kernel) (sa_cons (sv 0) sa_nil)) sa_nil))) (sg_name (i := 2) vc.nd)
  (ss_one (ss_if (st_w (sw_or (st_cmp (os_eq vc) (sv 1) (se_lst sa_nil)) (sw_or1 (st_cmp (os_ne vc) (se_idx vc (sv 1) (se_un us_neg se_int)) (sv 2)))))
  (ss_one (ss_expr (se_meth F.plainAttrs_list F.slot_list_append F.type_list_append ms_append chk_list (sv 1) (sa_cons (sv 2) sa_nil))))
  ss_nil)))
  (ss_one (ss_ret (sv 1)))))
def F__law_subsets : SemS :=
  (sSeq (sSet 1 (eDisp mkLst (aCons (eDisp mkTup aNil) aNil)))
  (sSeq (sFor (.nm 2) (iRng1 (aCons (eVar 0) aNil))
  (sSet 1 (eBin addS (eVar 1) (eLc [4] (.nm 4) (iSeq (eVar 1)) tTru (eBin addS (eVar 4) (eDisp mkTup (aCons (eVar 2) aNil)))))))
  (sRet (eLc [3, 4] (.tp [(.nm 3), (.nm 4)]) (iSeq (eCall (one sortedD) (aCons (eLc [4] (.nm 4) (iSeq (eVar 1)) tTru (eDisp mkTup (aCons (eCall (one lenD) (aCons (eVar 4) aNil)) (aCons (eVar 4) aNil)))) aNil))) tTru (eVar 4)))))
def G__law_subsets := runF 5 F__law_subsets
theorem ok__law_subsets (T : Tx K mg G fd fI P0) : FnOk P w K mg base (L2.CX P w) 1 (G.fa 15) (fd 15) ["many"] (spI G 1 G__law_subsets) := by
  refine fn_mkI T.F__law_subsets sc__law_subsets T.GK.symm (fun cdv A outer s H E vc => ?_)
  exact (ss_cons (ss_set (i := 1) vc (se_lst (sa_cons (se_tup sa_nil) sa_nil)))
  (ss_cons (ss_for vc (si_rng1 rfl T.z_range (sa_cons (sv 0) sa_nil)) (sg_name (i := 2) vc.nd)
  (ss_one (ss_set (i := 1) vc (se_bin os_add (sv 1) (se_lc (own := [("one", 4)]) vc (si_seq (sv 1)) (blkOk_by (by kernel_rfl)) (fun s1 H1 C1 cl1 fp1 => (sg_name (i := 4) (vc.blk s1 H1 _ _ fp1).nd)) (fun s1 H1 C1 cl1 fp1 => sts_nil) (fun s1 H1 C1 cl1 fp1 => (se_bin os_add (sv 4) (se_tup (sa_cons (sv 2) sa_nil)))))))))
  (ss_one (ss_ret (se_lc (own := [("size", 3), ("one", 4)]) vc (si_seq (se_callB (cs_sorted vc) rfl T.z_sorted (by decide +kernel) (sa_cons (se_lc (own := [("one", 4)]) vc (si_seq (sv 1)) (blkOk_by (by kernel_rfl)) (fun s1 H1 C1 cl1 fp1 => (sg_name (i := 4) (vc.blk s1 H1 _ _ fp1).nd)) (fun s1 H1 C1 cl1 fp1 => sts_nil) (fun s1 H1 C1 cl1 fp1 => (se_tup (sa_cons (se_callB (cs_len (vc.blk s1 H1 _ _ fp1).eK) rfl T.z_len (by decide +kernel) (sa_cons (sv 4) sa_nil)) (sa_cons (sv 4) sa_nil))))) sa_nil))) (blkOk_by (by kernel_rfl)) (fun s1 H1 C1 cl1 fp1 => (sg_tup (vc.blk s1 H1 _ _ fp1).calm (sg_cons (sg_name (i := 3) (vc.blk s1 H1 _ _ fp1).nd) (sg_cons (sg_name (i := 4) (vc.blk s1 H1 _ _ fp1).nd) sg_nil)))) (fun s1 H1 C1 cl1 fp1 => sts_nil) (fun s1 H1 C1 cl1 fp1 => (sv 4)))))))
def F__law_through : SemS :=
  (sRet (eCall (one sumD) (aCons (eLc [2, 3, 4] (.tp [(.nm 2), (.nm 3), (.nm 4)]) (iSeq (eVar 0)) (tAndD (tOf (eBin (inS false) (eVar 2) (eVar 1))) (tOf (eBin (inS true) (eVar 3) (eVar 1)))) (eVar 4)) aNil)))
def G__law_through := runF 5 F__law_through
theorem ok__law_through (T : Tx K mg G fd fI P0) : FnOk P w K mg base (L2.CX P w) 1 (G.fa 16) (fd 16) ["ducts", "side"] (spI G 2 G__law_through) := by
  refine fn_mkI T.F__law_through sc__law_through T.GK.symm (fun cdv A outer s H E vc => ?_)
  exact (ss_one (ss_ret (se_callB (cs_sum vc) rfl T.z_sum (by decide +kernel) (sa_cons (se_lc (own := [("one", 2), ("other", 3), ("most", 4)]) vc (si_seq (sv 0)) (blkOk_by (by kernel_rfl)) (fun s1 H1 C1 cl1 fp1 => (sg_tup (vc.blk s1 H1 _ _ fp1).calm (sg_cons (sg_name (i := 2) (vc.blk s1 H1 _ _ fp1).nd) (sg_cons (sg_name (i := 3) (vc.blk s1 H1 _ _ fp1).nd) (sg_cons (sg_name (i := 4) (vc.blk s1 H1 _ _ fp1).nd) sg_nil))))) (fun s1 H1 C1 cl1 fp1 => (sts_one (st_w (sw_and (st_cmp (os_in (vc.blk s1 H1 _ _ fp1)) (sv 2) (sv 1)) (sw_and1 (st_cmp (os_notIn (vc.blk s1 H1 _ _ fp1)) (sv 3) (sv 1))))))) (fun s1 H1 C1 cl1 fp1 => (sv 4))) sa_nil))))
def tbl_law_ask (j : Nat) : Option (Nat × (List Vl → List O → Res Vl)) := if j = 8 then some (3, G_most_air) else if j = 9 then some (3, G_narrow) else none
theorem tok_law_ask (T : Tx K mg G fd fI P0) {X : Cx} (hK : X.K = K := by rfl) (hm : X.mg = mg := by rfl) : ∀ a ng, tbl_law_ask a = some ng → FnAt G X 5 (G.fa a) ng.1 ng.2 := fun a ng e => by
  subst hK; subst hm
  unfold tbl_law_ask at e
  split at e
  · rename_i ha; cases e; subst ha; exact ⟨⟨fd 8, _, (ok_most_air T).mono (by decide), T.F_most_air.kp, T.B_most_air⟩⟩
  split at e
  · rename_i ha; cases e; subst ha; exact ⟨⟨fd 9, _, (ok_narrow T).mono (by decide), T.F_narrow.kp, T.B_narrow⟩⟩
  cases e
def F_law : SemS :=
  (sSeq (sSet 1 (eLstO (aCons (eVar 0) (aCons (eC (.int 0)) (aCons (eC (.int 116)) (aCons (eC (.int 0)) aNil))))))
  (sSeq (sTupO [2, 3] (aCons (eBin eqS (eFun G__law_taken (aCons (eVar 1) (aCons (eC (.int 5)) aNil))) (eC (.int 0))) (aCons (eLstO aNil) aNil)))
  (sSeq (sSet 4 (eIf (tTru1 (eVar 2)) (eC (.int 10)) (eBin addS (eC (.int 2)) (eFun G__law_taken (aCons (eVar 1) (aCons (eC (.int 4)) aNil))))))
  (sSeq (sFor (.nm 5) (iRng1 (aCons (eFun G__law_taken (aCons (eVar 1) (aCons (eIf (tTru1 (eVar 2)) (eC (.int 31)) (eC (.int 9))) aNil))) aNil))
  (sSeq (sSet 6 (eFun G__law_taken (aCons (eVar 1) (aCons (eVar 4) aNil))))
  (sExpr (eMeth isL mAppend (eVar 3) (aCons (eDisp mkTup (aCons (eVar 6) (aCons (eFun G__law_pick (aCons (eVar 1) (aCons (eLc [12] (.nm 12) (iRng1 (aCons (eVar 4) aNil)) (tOf (eBin neS (eVar 12) (eVar 6))) (eVar 12)) aNil))) (aCons (eFun G__law_taken (aCons (eVar 1) (aCons (eFun G__law_pick (aCons (eVar 1) (aCons (eDisp mkLst (aCons (eC (.int 4)) (aCons (eC (.int 101)) aNil))) aNil))) aNil))) aNil)))) aNil)))))
  (sFrz 3 (sSeq (sSet 7 (eFun G__law_taken (aCons (eVar 1) (aCons (eVar 4) aNil))))
  (sSeq (sSet 8 (eFun G__law_pick (aCons (eVar 1) (aCons (eLc [12] (.nm 12) (iRng1 (aCons (eVar 4) aNil)) (tOf (eBin neS (eVar 12) (eVar 7))) (eVar 12)) aNil))))
  (sSeq (sTup (.tp [(.nm 9), (.nm 10)]) (eFun G_most_air (aCons (eCall (one tupleD) (aCons (eVar 3) aNil)) (aCons (eVar 7) (aCons (eVar 8) aNil)))))
  (sSeq (sIf (tOrD (tNotD (tTru1 (eCall isiD (aCons (eVar 10) (aCons (eC (.ty .tuple)) aNil))))) (tOrD (tOf (eBin neS (eCall (one lenD) (aCons (eVar 10) aNil)) (eCall (one lenD) (aCons (eVar 3) aNil)))) (tOf (eBin neS (eLc [25] (.nm 25) (iRng1 (aCons (eCall (one lenD) (aCons (eVar 3) aNil)) aNil)) (tNotD (tOf (eChain leS leS (eC (.int 0)) (eBin idxS (eVar 10) (eVar 25)) (eBin idxS (eBin idxS (eVar 3) (eVar 25)) (eC (.int 2)))))) (eVar 25)) (eDisp mkLst aNil)))))
  (sRet (eC (.bl false)))
  sNx)
  (sSeq (sSet 11 (eMulO (eDisp mkLst (aCons (eC (.int 0)) aNil)) (eC (.int 10))))
  (sSeq (sFor (.tp [(.tp [(.nm 6), (.nm 12), (.nm 13)]), (.nm 14)]) (iZip (aCons (eVar 3) (aCons (eVar 10) aNil)))
  (sSeq (sSub (eBin subS (eBin idxS (eVar 11) (eVar 6)) (eVar 14)) (eVar 11) (eVar 6))
  (sSub (eBin addS (eBin idxS (eVar 11) (eVar 12)) (eVar 14)) (eVar 11) (eVar 12))))
  (sSeq (sIf (tOrD (tOf (eBin neS (eBin idxS (eVar 11) (eVar 8)) (eVar 9))) (tOrD (tOf (eBin neS (eBin idxS (eVar 11) (eVar 7)) (eBin subS (eC (.int 0)) (eVar 9)))) (tOf (eBin neS (eLc [25] (.nm 25) (iRng1 (aCons (eC (.int 10)) aNil)) (tAndD (tOf (eBin neS (eBin idxS (eVar 11) (eVar 25)) (eC (.int 0)))) (tOf (eBin (inS true) (eVar 25) (eDisp mkLst (aCons (eVar 7) (aCons (eVar 8) aNil)))))) (eVar 25)) (eDisp mkLst aNil)))))
  (sRet (eC (.bl false)))
  sNx)
  (sSeq (sSet 15 (eFun G_narrow (aCons (eVar 3) (aCons (eVar 7) (aCons (eVar 8) aNil)))))
  (sSeq (sIf (tOrD (tNotD (tTru1 (eCall isiD (aCons (eVar 15) (aCons (eC (.ty .tuple)) aNil))))) (tOrD (tOf (eBin neS (eCall (one listD) (aCons (eVar 15) aNil)) (eFun G__law_unlike (aCons (eVar 15) aNil)))) (tOrD (tOf (eBin (inS true) (eVar 7) (eVar 15))) (tOrD (tOf (eBin (inS false) (eVar 8) (eVar 15))) (tOf (eBin neS (eFun G__law_through (aCons (eVar 3) (aCons (eVar 15) aNil))) (eVar 9)))))))
  (sRet (eC (.bl false)))
  sNx)
  (sSeq (sIf (tNotD (tTru1 (eVar 2)))
  (sSeq (sSet 16 (eLc [25] (.nm 25) (iRng1 (aCons (eVar 4) aNil)) (tOf (eBin (inS true) (eVar 25) (eDisp mkLst (aCons (eVar 7) (aCons (eVar 8) aNil))))) (eVar 25)))
  (sFor (.nm 17) (iSeq (eFun G__law_subsets (aCons (eCall (one lenD) (aCons (eVar 16) aNil)) aNil)))
  (sSeq (sSet 12 (eCall (one tupleD) (aCons (eCall (one sortedD) (aCons (eBin addS (eDisp mkLst (aCons (eVar 7) aNil)) (eLc [25] (.nm 25) (iSeq (eVar 17)) tTru (eBin idxS (eVar 16) (eVar 25)))) aNil)) aNil)))
  (sSeq (sSet 18 (eFun G__law_through (aCons (eVar 3) (aCons (eVar 12) aNil))))
  (sIf (tOrD (tOf (eBin ltS (eVar 18) (eVar 9))) (tAndD (tOf (eBin eqS (eVar 18) (eVar 9))) (tOf (eBin neS (eLc [25] (.nm 25) (iSeq (eVar 15)) (tOf (eBin (inS true) (eVar 25) (eVar 12))) (eVar 25)) (eDisp mkLst aNil)))))
  (sRet (eC (.bl false)))
  sNx)))))
  sNx)
  (sSeq (sFor (.nm 19) (iRng1 (aCons (eC (.int 4)) aNil))
  (sSeq (sSet 20 (eCall (one tupleD) (aCons (eLc [25] (.nm 25) (iRng1 (aCons (eC (.int 10)) aNil)) (tOf (eBin eqS (eFun G__law_taken (aCons (eVar 1) (aCons (eC (.int 2)) aNil))) (eC (.int 0)))) (eVar 25)) aNil)))
  (sIf (tNotD (tTru1 (eFun (G__law_alike 5) (aCons (eFun G_let_through (aCons (eCall (one tupleD) (aCons (eVar 3) aNil)) (aCons (eVar 20) aNil))) (aCons (eFun G__law_through (aCons (eVar 3) (aCons (eVar 20) aNil))) aNil)))))
  (sRet (eC (.bl false)))
  sNx)))
  (sSeq (sSet 21 (eBin addS (eSlice (eVar 3) oNone (oSome (eC (.int 29)))) (eDisp mkLst (aCons (eFun G__law_pick (aCons (eVar 1) (aCons (eDisp mkLst (aCons (eC .non) (aCons (eDisp mkTup (aCons (eC (.int 0)) (aCons (eC (.int 0)) (aCons (eC (.int 1)) aNil)))) (aCons (eDisp mkTup (aCons (eC (.int 0)) (aCons (eC (.int 10)) (aCons (eC (.int 1)) aNil)))) (aCons (eDisp mkTup (aCons (eUn negS (eC (.int 1))) (aCons (eC (.int 0)) (aCons (eC (.int 1)) aNil)))) (aCons (eDisp mkTup (aCons (eC (.int 0)) (aCons (eC (.int 1)) (aCons (eUn negS (eC (.int 1))) aNil)))) (aCons (eDisp mkTup (aCons (eC (.int 0)) (aCons (eC (.int 1)) (aCons (eC (.int 101)) aNil)))) (aCons (eDisp mkLst (aCons (eC (.int 0)) (aCons (eC (.int 1)) (aCons (eC (.int 1)) aNil)))) (aCons (eDisp mkTup (aCons (eC (.int 0)) (aCons (eC (.int 1)) aNil))) (aCons (eDisp mkTup (aCons (eC (.int 0)) (aCons (eC (.bl true)) (aCons (eC (.int 1)) aNil)))) aNil)))))))))) aNil))) aNil))))
  (sSeq (sSet 22 (eFun G__law_pick (aCons (eVar 1) (aCons (eDisp mkLst (aCons (eUn negS (eC (.int 1))) (aCons (eC (.int 10)) (aCons (eC .non) (aCons (eC (.bl true)) aNil))))) aNil))))
  (sSeq (sFor (.nm 23) (iSeq (eDisp mkLst (aCons (eC (.fn 8)) (aCons (eC (.fn 9)) aNil))))
  (sSeq (sIf (tOf (eBin neS (eRef hsR (eFunV 23 tbl_law_ask (aCons (eVar 21) (aCons (eVar 22) (aCons (eVar 22) aNil))))) (eDisp mkTup (aCons (eC (.str "ducts")) (aCons (eBin subS (eCall (one lenD) (aCons (eVar 21) aNil)) (eC (.int 1))) aNil)))))
  (sRet (eC (.bl false)))
  sNx)
  (sSeq (sIf (tOf (eBin neS (eRef hsR (eFunV 23 tbl_law_ask (aCons (eFun G__law_pick (aCons (eVar 1) (aCons (eDisp mkLst (aCons (eC .non) (aCons (eBin mulS (eDisp mkLst (aCons (eDisp mkTup (aCons (eC (.int 0)) (aCons (eC (.int 1)) (aCons (eC (.int 1)) aNil)))) aNil)) (eC (.int 31))) (aCons (eC (.int 5)) aNil)))) aNil))) (aCons (eVar 22) (aCons (eVar 22) aNil))))) (eDisp mkTup (aCons (eC (.str "ducts")) (aCons (eUn negS (eC (.int 1))) aNil)))))
  (sRet (eC (.bl false)))
  sNx)
  (sSeq (sIf (tOf (eBin neS (eCall (one reprD) (aCons (eRef hsR (eFunV 23 tbl_law_ask (aCons (eVar 3) (aCons (eVar 22) (aCons (eVar 22) aNil))))) aNil)) (eCall (one reprD) (aCons (eDisp mkTup (aCons (eC (.str "junction")) (aCons (eVar 22) aNil))) aNil))))
  (sRet (eC (.bl false)))
  sNx)
  (sSeq (sIf (tOf (eBin neS (eCall (one reprD) (aCons (eRef hsR (eFunV 23 tbl_law_ask (aCons (eVar 3) (aCons (eVar 7) (aCons (eVar 22) aNil))))) aNil)) (eCall (one reprD) (aCons (eDisp mkTup (aCons (eC (.str "junction")) (aCons (eVar 22) aNil))) aNil))))
  (sRet (eC (.bl false)))
  sNx)
  (sIf (tOf (eBin neS (eRef hsR (eFunV 23 tbl_law_ask (aCons (eVar 3) (aCons (eVar 7) (aCons (eVar 7) aNil))))) (eDisp mkTup (aCons (eC (.str "junction")) (aCons (eVar 7) aNil)))))
  (sRet (eC (.bl false)))
  sNx))))))
  (sSeq (sSet 24 (eFun G__law_pick (aCons (eVar 1) (aCons (eDisp mkLst (aCons (eC .non) (aCons (eDisp mkLst (aCons (eC (.int 0)) aNil)) (aCons (eDisp mkTup (aCons (eC (.int 1)) (aCons (eC (.int 0)) aNil))) (aCons (eDisp mkTup (aCons (eC (.int 0)) (aCons (eC (.int 0)) aNil))) (aCons (eDisp mkTup (aCons (eC (.int 10)) aNil)) (aCons (eDisp mkTup (aCons (eUn negS (eC (.int 1))) aNil)) (aCons (eDisp mkTup (aCons (eC (.bl true)) aNil)) aNil)))))))) aNil))))
  (sRet (eBin eqS (eCall (one reprD) (aCons (eRef hsR (eFun G_let_through (aCons (eVar 3) (aCons (eVar 24) aNil)))) aNil)) (eCall (one reprD) (aCons (eDisp mkTup (aCons (eC (.str "side")) (aCons (eVar 24) aNil))) aNil))))))))))))))))))))))))
theorem run_law (T : Tx K mg G fd fI P0) {fa c : Addr} {s : Shared} {H : Hp} (tb : LamX.TabB base mg c P0) (vc : VC G (lawX P w K mg base N_law s_law fa c s H) 9 (WEx fun _ _ _ => False)) (hgd : (lawX P w K mg base N_law s_law fa c s H).A.guards = some []) :
    SSs G (lawX P w K mg base N_law s_law fa c s H) (WEx fun _ _ _ => False) (defBody s_law) F_law :=
  (ss_cons (ss_set (i := 1) vc (se_lstO (sa_cons (sv 0) (sa_cons se_int (sa_cons se_int (sa_cons se_int sa_nil))))))
  (ss_cons (ss_tupO (is := [2, 3]) (sa_cons (se_cmp (os_eq vc) (se_call vc (ok__law_taken T) (by decide) rfl T.m__law_taken T.F__law_taken.kp T.B__law_taken (sa_cons (sv 1) (sa_cons se_int sa_nil)) (hsz := (len_cons (len_cons len_nil)))) se_int) (sa_cons (se_lstO sa_nil) sa_nil)) (sg_tup vc.calm (sg_cons (sg_name (i := 2) vc.nd) (sg_cons (sg_name (i := 3) vc.nd) sg_nil))))
  (ss_cons (ss_set (i := 4) vc (se_if (st_tru (sv 2)) se_int (se_bin os_add se_int (se_call vc (ok__law_taken T) (by decide) rfl T.m__law_taken T.F__law_taken.kp T.B__law_taken (sa_cons (sv 1) (sa_cons se_int sa_nil)) (hsz := (len_cons (len_cons len_nil)))))))
  (ss_cons (ss_for vc (si_rng1 rfl T.z_range (sa_cons (se_call vc (ok__law_taken T) (by decide) rfl T.m__law_taken T.F__law_taken.kp T.B__law_taken (sa_cons (sv 1) (sa_cons (se_if (st_tru (sv 2)) se_int se_int) sa_nil)) (hsz := (len_cons (len_cons len_nil)))) sa_nil)) (sg_name (i := 5) vc.nd)
  (ss_cons (ss_set (i := 6) vc (se_call vc (ok__law_taken T) (by decide) rfl T.m__law_taken T.F__law_taken.kp T.B__law_taken (sa_cons (sv 1) (sa_cons (sv 4) sa_nil)) (hsz := (len_cons (len_cons len_nil)))))
  (ss_one (ss_expr (se_meth F.plainAttrs_list F.slot_list_append F.type_list_append ms_append chk_list (sv 3) (sa_cons (se_tup (sa_cons (sv 6) (sa_cons (se_call vc (ok__law_pick T) (by decide) rfl T.m__law_pick T.F__law_pick.kp T.B__law_pick (sa_cons (sv 1) (sa_cons (se_lc (own := [("other", 12)]) vc (si_rng1 rfl T.z_range (sa_cons (sv 4) sa_nil)) (blkOk_by (by kernel_rfl)) (fun s1 H1 C1 cl1 fp1 => (sg_name (i := 12) (vc.blk s1 H1 _ _ fp1).nd)) (fun s1 H1 C1 cl1 fp1 => (sts_one (st_cmp (os_ne (vc.blk s1 H1 _ _ fp1)) (sv 12) (sv 6)))) (fun s1 H1 C1 cl1 fp1 => (sv 12))) sa_nil)) (hsz := (len_cons (len_cons len_nil)))) (sa_cons (se_call vc (ok__law_taken T) (by decide) rfl T.m__law_taken T.F__law_taken.kp T.B__law_taken (sa_cons (sv 1) (sa_cons (se_call vc (ok__law_pick T) (by decide) rfl T.m__law_pick T.F__law_pick.kp T.B__law_pick (sa_cons (sv 1) (sa_cons (se_lst (sa_cons se_int (sa_cons se_int sa_nil))) sa_nil)) (hsz := (len_cons (len_cons len_nil)))) sa_nil)) (hsz := (len_cons (len_cons len_nil)))) sa_nil)))) sa_nil))))))
  (ss_frz (i := 3) (ss_cons (ss_set (i := 7) vc (se_call vc (ok__law_taken T) (by decide) rfl T.m__law_taken T.F__law_taken.kp T.B__law_taken (sa_cons (sv 1) (sa_cons (sv 4) sa_nil)) (hsz := (len_cons (len_cons len_nil)))))
  (ss_cons (ss_set (i := 8) vc (se_call vc (ok__law_pick T) (by decide) rfl T.m__law_pick T.F__law_pick.kp T.B__law_pick (sa_cons (sv 1) (sa_cons (se_lc (own := [("other", 12)]) vc (si_rng1 rfl T.z_range (sa_cons (sv 4) sa_nil)) (blkOk_by (by kernel_rfl)) (fun s1 H1 C1 cl1 fp1 => (sg_name (i := 12) (vc.blk s1 H1 _ _ fp1).nd)) (fun s1 H1 C1 cl1 fp1 => (sts_one (st_cmp (os_ne (vc.blk s1 H1 _ _ fp1)) (sv 12) (sv 7)))) (fun s1 H1 C1 cl1 fp1 => (sv 12))) sa_nil)) (hsz := (len_cons (len_cons len_nil)))))
  (ss_cons (ss_tup (se_call vc (ok_most_air T) (by decide) rfl T.m_most_air T.F_most_air.kp T.B_most_air (sa_cons (se_callTy cs_tuple rfl T.z_tuple (by decide +kernel) (sa_cons (sv 3) sa_nil)) (sa_cons (sv 7) (sa_cons (sv 8) sa_nil))) (hsz := (len_cons (len_cons (len_cons len_nil))))) (sg_tup vc.calm (sg_cons (sg_name (i := 9) vc.nd) (sg_cons (sg_name (i := 10) vc.nd) sg_nil))))
  (ss_cons (ss_if (st_w (sw_or (st_not (st_tru (se_callB cs_isi rfl T.z_isinstance (by decide +kernel) (sa_cons (sv 10) (sa_cons (se_ty (t := .tuple) rfl T.z_tuple (by decide +kernel)) sa_nil))))) (sw_or (st_cmp (os_ne vc) (se_callB (cs_len vc.eK) rfl T.z_len (by decide +kernel) (sa_cons (sv 10) sa_nil)) (se_callB (cs_len vc.eK) rfl T.z_len (by decide +kernel) (sa_cons (sv 3) sa_nil))) (sw_or1 (st_cmp (os_ne vc) (se_lc (own := [("at", 25)]) vc (si_rng1 rfl T.z_range (sa_cons (se_callB (cs_len vc.eK) rfl T.z_len (by decide +kernel) (sa_cons (sv 3) sa_nil)) sa_nil)) (blkOk_by (by kernel_rfl)) (fun s1 H1 C1 cl1 fp1 => (sg_name (i := 25) (vc.blk s1 H1 _ _ fp1).nd)) (fun s1 H1 C1 cl1 fp1 => (sts_one (st_not (st_chain os_le os_le se_int (se_idx (vc.blk s1 H1 _ _ fp1) (sv 10) (sv 25)) (se_idx (vc.blk s1 H1 _ _ fp1) (se_idx (vc.blk s1 H1 _ _ fp1) (sv 3) (sv 25)) se_int))))) (fun s1 H1 C1 cl1 fp1 => (sv 25))) (se_lst sa_nil))))))
  (ss_one (ss_ret se_bl))
  ss_nil)
  (ss_cons (ss_set (i := 11) vc (se_mulO (se_lst (sa_cons se_int sa_nil)) se_int))
  (ss_cons (ss_for vc (si_zip rfl T.z_zip (sa_cons (sv 3) (sa_cons (sv 10) sa_nil))) (sg_tup vc.calm (sg_cons (sg_tup vc.calm (sg_cons (sg_name (i := 6) vc.nd) (sg_cons (sg_name (i := 12) vc.nd) (sg_cons (sg_name (i := 13) vc.nd) sg_nil)))) (sg_cons (sg_name (i := 14) vc.nd) sg_nil)))
  (ss_cons (ss_sub vc (se_bin os_sub (se_idx vc (sv 11) (sv 6)) (sv 14)) (sv 11) (sv 6))
  (ss_one (ss_sub vc (se_bin os_add (se_idx vc (sv 11) (sv 12)) (sv 14)) (sv 11) (sv 12)))))
  (ss_cons (ss_if (st_w (sw_or (st_cmp (os_ne vc) (se_idx vc (sv 11) (sv 8)) (sv 9)) (sw_or (st_cmp (os_ne vc) (se_idx vc (sv 11) (sv 7)) (se_bin os_sub se_int (sv 9))) (sw_or1 (st_cmp (os_ne vc) (se_lc (own := [("at", 25)]) vc (si_rng1 rfl T.z_range (sa_cons se_int sa_nil)) (blkOk_by (by kernel_rfl)) (fun s1 H1 C1 cl1 fp1 => (sg_name (i := 25) (vc.blk s1 H1 _ _ fp1).nd)) (fun s1 H1 C1 cl1 fp1 => (sts_one (st_w (sw_and (st_cmp (os_ne (vc.blk s1 H1 _ _ fp1)) (se_idx (vc.blk s1 H1 _ _ fp1) (sv 11) (sv 25)) se_int) (sw_and1 (st_cmp (os_notIn (vc.blk s1 H1 _ _ fp1)) (sv 25) (se_lst (sa_cons (sv 7) (sa_cons (sv 8) sa_nil))))))))) (fun s1 H1 C1 cl1 fp1 => (sv 25))) (se_lst sa_nil))))))
  (ss_one (ss_ret se_bl))
  ss_nil)
  (ss_cons (ss_set (i := 15) vc (se_call vc (ok_narrow T) (by decide) rfl T.m_narrow T.F_narrow.kp T.B_narrow (sa_cons (sv 3) (sa_cons (sv 7) (sa_cons (sv 8) sa_nil))) (hsz := (len_cons (len_cons (len_cons len_nil))))))
  (ss_cons (ss_if (st_w (sw_or (st_not (st_tru (se_callB cs_isi rfl T.z_isinstance (by decide +kernel) (sa_cons (sv 15) (sa_cons (se_ty (t := .tuple) rfl T.z_tuple (by decide +kernel)) sa_nil))))) (sw_or (st_cmp (os_ne vc) (se_callTy (cs_list vc.eK) rfl T.z_list (by decide +kernel) (sa_cons (sv 15) sa_nil)) (se_call vc (ok__law_unlike T) (by decide) rfl T.m__law_unlike T.F__law_unlike.kp T.B__law_unlike (sa_cons (sv 15) sa_nil) (hsz := (len_cons len_nil)))) (sw_or (st_cmp (os_notIn vc) (sv 7) (sv 15)) (sw_or (st_cmp (os_in vc) (sv 8) (sv 15)) (sw_or1 (st_cmp (os_ne vc) (se_call vc (ok__law_through T) (by decide) rfl T.m__law_through T.F__law_through.kp T.B__law_through (sa_cons (sv 3) (sa_cons (sv 15) sa_nil)) (hsz := (len_cons (len_cons len_nil)))) (sv 9))))))))
  (ss_one (ss_ret se_bl))
  ss_nil)
  (ss_cons (ss_if (st_not (st_tru (sv 2)))
  (ss_cons (ss_set (i := 16) vc (se_lc (own := [("at", 25)]) vc (si_rng1 rfl T.z_range (sa_cons (sv 4) sa_nil)) (blkOk_by (by kernel_rfl)) (fun s1 H1 C1 cl1 fp1 => (sg_name (i := 25) (vc.blk s1 H1 _ _ fp1).nd)) (fun s1 H1 C1 cl1 fp1 => (sts_one (st_cmp (os_notIn (vc.blk s1 H1 _ _ fp1)) (sv 25) (se_lst (sa_cons (sv 7) (sa_cons (sv 8) sa_nil)))))) (fun s1 H1 C1 cl1 fp1 => (sv 25))))
  (ss_one (ss_for vc (si_seq (se_call vc (ok__law_subsets T) (by decide) rfl T.m__law_subsets T.F__law_subsets.kp T.B__law_subsets (sa_cons (se_callB (cs_len vc.eK) rfl T.z_len (by decide +kernel) (sa_cons (sv 16) sa_nil)) sa_nil) (hsz := (len_cons len_nil)))) (sg_name (i := 17) vc.nd)
  (ss_cons (ss_set (i := 12) vc (se_callTy cs_tuple rfl T.z_tuple (by decide +kernel) (sa_cons (se_callB (cs_sorted vc) rfl T.z_sorted (by decide +kernel) (sa_cons (se_bin os_add (se_lst (sa_cons (sv 7) sa_nil)) (se_lc (own := [("at", 25)]) vc (si_seq (sv 17)) (blkOk_by (by kernel_rfl)) (fun s1 H1 C1 cl1 fp1 => (sg_name (i := 25) (vc.blk s1 H1 _ _ fp1).nd)) (fun s1 H1 C1 cl1 fp1 => sts_nil) (fun s1 H1 C1 cl1 fp1 => (se_idx (vc.blk s1 H1 _ _ fp1) (sv 16) (sv 25))))) sa_nil)) sa_nil)))
  (ss_cons (ss_set (i := 18) vc (se_call vc (ok__law_through T) (by decide) rfl T.m__law_through T.F__law_through.kp T.B__law_through (sa_cons (sv 3) (sa_cons (sv 12) sa_nil)) (hsz := (len_cons (len_cons len_nil)))))
  (ss_one (ss_if (st_w (sw_or (st_cmp os_lt (sv 18) (sv 9)) (sw_or1 (st_w (sw_and (st_cmp (os_eq vc) (sv 18) (sv 9)) (sw_and1 (st_cmp (os_ne vc) (se_lc (own := [("at", 25)]) vc (si_seq (sv 15)) (blkOk_by (by kernel_rfl)) (fun s1 H1 C1 cl1 fp1 => (sg_name (i := 25) (vc.blk s1 H1 _ _ fp1).nd)) (fun s1 H1 C1 cl1 fp1 => (sts_one (st_cmp (os_notIn (vc.blk s1 H1 _ _ fp1)) (sv 25) (sv 12)))) (fun s1 H1 C1 cl1 fp1 => (sv 25))) (se_lst sa_nil))))))))
  (ss_one (ss_ret se_bl))
  ss_nil)))))))
  ss_nil)
  (ss_cons (ss_for vc (si_rng1 rfl T.z_range (sa_cons se_int sa_nil)) (sg_name (i := 19) vc.nd)
  (ss_cons (ss_set (i := 20) vc (se_callTy cs_tuple rfl T.z_tuple (by decide +kernel) (sa_cons (se_lc (own := [("at", 25)]) vc (si_rng1 rfl T.z_range (sa_cons se_int sa_nil)) (blkOk_by (by kernel_rfl)) (fun s1 H1 C1 cl1 fp1 => (sg_name (i := 25) (vc.blk s1 H1 _ _ fp1).nd)) (fun s1 H1 C1 cl1 fp1 => (sts_one (st_cmp (os_eq (vc.blk s1 H1 _ _ fp1)) (se_call (vc.blk s1 H1 _ _ fp1) (ok__law_taken T) (by decide) rfl T.m__law_taken T.F__law_taken.kp T.B__law_taken (sa_cons (sv 1) (sa_cons se_int sa_nil)) (hsz := (len_cons (len_cons len_nil)))) se_int))) (fun s1 H1 C1 cl1 fp1 => (sv 25))) sa_nil)))
  (ss_one (ss_if (st_not (st_tru (se_call vc (ok__law_alike T 5) (by decide) rfl T.m__law_alike T.F__law_alike.kp T.B__law_alike (sa_cons (se_call vc (ok_let_through T) (by decide) rfl T.m_let_through T.F_let_through.kp T.B_let_through (sa_cons (se_callTy cs_tuple rfl T.z_tuple (by decide +kernel) (sa_cons (sv 3) sa_nil)) (sa_cons (sv 20) sa_nil)) (hsz := (len_cons (len_cons len_nil)))) (sa_cons (se_call vc (ok__law_through T) (by decide) rfl T.m__law_through T.F__law_through.kp T.B__law_through (sa_cons (sv 3) (sa_cons (sv 20) sa_nil)) (hsz := (len_cons (len_cons len_nil)))) sa_nil)) (hsz := (len_cons (len_cons len_nil))))))
  (ss_one (ss_ret se_bl))
  ss_nil))))
  (ss_cons (ss_set (i := 21) vc (se_bin os_add (se_slice vc (sv 3) so_none (so_some se_int)) (se_lst (sa_cons (se_call vc (ok__law_pick T) (by decide) rfl T.m__law_pick T.F__law_pick.kp T.B__law_pick (sa_cons (sv 1) (sa_cons (se_lst (sa_cons se_non (sa_cons (se_tup (sa_cons se_int (sa_cons se_int (sa_cons se_int sa_nil)))) (sa_cons (se_tup (sa_cons se_int (sa_cons se_int (sa_cons se_int sa_nil)))) (sa_cons (se_tup (sa_cons (se_un us_neg se_int) (sa_cons se_int (sa_cons se_int sa_nil)))) (sa_cons (se_tup (sa_cons se_int (sa_cons se_int (sa_cons (se_un us_neg se_int) sa_nil)))) (sa_cons (se_tup (sa_cons se_int (sa_cons se_int (sa_cons se_int sa_nil)))) (sa_cons (se_lst (sa_cons se_int (sa_cons se_int (sa_cons se_int sa_nil)))) (sa_cons (se_tup (sa_cons se_int (sa_cons se_int sa_nil))) (sa_cons (se_tup (sa_cons se_int (sa_cons se_bl (sa_cons se_int sa_nil)))) sa_nil)))))))))) sa_nil)) (hsz := (len_cons (len_cons len_nil)))) sa_nil))))
  (ss_cons (ss_set (i := 22) vc (se_call vc (ok__law_pick T) (by decide) rfl T.m__law_pick T.F__law_pick.kp T.B__law_pick (sa_cons (sv 1) (sa_cons (se_lst (sa_cons (se_un us_neg se_int) (sa_cons se_int (sa_cons se_non (sa_cons se_bl sa_nil))))) sa_nil)) (hsz := (len_cons (len_cons len_nil)))))
  (ss_cons (ss_for vc (si_seq (se_lst (sa_cons (se_fn (j := 8) rfl T.m_most_air) (sa_cons (se_fn (j := 9) rfl T.m_narrow) sa_nil)))) (sg_name (i := 23) vc.nd)
  (ss_cons (ss_if (st_cmp (os_ne vc) (se_refW vc T.F__law_refused rfl T.m__law_refused T.B__law_refused sc__law_refused rfl (Or.inl rfl) (giv_ref T _ rfl rfl) tb rfl T.GT T.inj T.fdv (fun _ _ _ _ _ _ _ vl => (se_callV (i := 23) vl (j := 5) (by decide) (tok_law_ask T) (sa_cons (sv 21) (sa_cons (sv 22) (sa_cons (sv 22) sa_nil)))))) (se_tup (sa_cons se_str (sa_cons (se_bin os_sub (se_callB (cs_len vc.eK) rfl T.z_len (by decide +kernel) (sa_cons (sv 21) sa_nil)) se_int) sa_nil))))
  (ss_one (ss_ret se_bl))
  ss_nil)
  (ss_cons (ss_if (st_cmp (os_ne vc) (se_refW vc T.F__law_refused rfl T.m__law_refused T.B__law_refused sc__law_refused rfl (Or.inl rfl) (giv_ref T _ rfl rfl) tb rfl T.GT T.inj T.fdv (fun _ _ _ _ _ _ _ vl => (se_callV (i := 23) vl (j := 5) (by decide) (tok_law_ask T) (sa_cons (se_call vl (ok__law_pick T) (by decide) rfl T.m__law_pick T.F__law_pick.kp T.B__law_pick (sa_cons (sv 1) (sa_cons (se_lst (sa_cons se_non (sa_cons (se_bin os_mul (se_lst (sa_cons (se_tup (sa_cons se_int (sa_cons se_int (sa_cons se_int sa_nil)))) sa_nil)) se_int) (sa_cons se_int sa_nil)))) sa_nil)) (hsz := (len_cons (len_cons len_nil)))) (sa_cons (sv 22) (sa_cons (sv 22) sa_nil)))))) (se_tup (sa_cons se_str (sa_cons (se_un us_neg se_int) sa_nil))))
  (ss_one (ss_ret se_bl))
  ss_nil)
  (ss_cons (ss_if (st_cmp (os_ne vc) (se_callB (cs_repr vc hgd) rfl T.z_repr (by decide +kernel) (sa_cons (se_refW vc T.F__law_refused rfl T.m__law_refused T.B__law_refused sc__law_refused rfl (Or.inl rfl) (giv_ref T _ rfl rfl) tb rfl T.GT T.inj T.fdv (fun _ _ _ _ _ _ _ vl => (se_callV (i := 23) vl (j := 5) (by decide) (tok_law_ask T) (sa_cons (sv 3) (sa_cons (sv 22) (sa_cons (sv 22) sa_nil)))))) sa_nil)) (se_callB (cs_repr vc hgd) rfl T.z_repr (by decide +kernel) (sa_cons (se_tup (sa_cons se_str (sa_cons (sv 22) sa_nil))) sa_nil)))
  (ss_one (ss_ret se_bl))
  ss_nil)
  (ss_cons (ss_if (st_cmp (os_ne vc) (se_callB (cs_repr vc hgd) rfl T.z_repr (by decide +kernel) (sa_cons (se_refW vc T.F__law_refused rfl T.m__law_refused T.B__law_refused sc__law_refused rfl (Or.inl rfl) (giv_ref T _ rfl rfl) tb rfl T.GT T.inj T.fdv (fun _ _ _ _ _ _ _ vl => (se_callV (i := 23) vl (j := 5) (by decide) (tok_law_ask T) (sa_cons (sv 3) (sa_cons (sv 7) (sa_cons (sv 22) sa_nil)))))) sa_nil)) (se_callB (cs_repr vc hgd) rfl T.z_repr (by decide +kernel) (sa_cons (se_tup (sa_cons se_str (sa_cons (sv 22) sa_nil))) sa_nil)))
  (ss_one (ss_ret se_bl))
  ss_nil)
  (ss_one (ss_if (st_cmp (os_ne vc) (se_refW vc T.F__law_refused rfl T.m__law_refused T.B__law_refused sc__law_refused rfl (Or.inl rfl) (giv_ref T _ rfl rfl) tb rfl T.GT T.inj T.fdv (fun _ _ _ _ _ _ _ vl => (se_callV (i := 23) vl (j := 5) (by decide) (tok_law_ask T) (sa_cons (sv 3) (sa_cons (sv 7) (sa_cons (sv 7) sa_nil)))))) (se_tup (sa_cons se_str (sa_cons (sv 7) sa_nil))))
  (ss_one (ss_ret se_bl))
  ss_nil)))))))
  (ss_cons (ss_set (i := 24) vc (se_call vc (ok__law_pick T) (by decide) rfl T.m__law_pick T.F__law_pick.kp T.B__law_pick (sa_cons (sv 1) (sa_cons (se_lst (sa_cons se_non (sa_cons (se_lst (sa_cons se_int sa_nil)) (sa_cons (se_tup (sa_cons se_int (sa_cons se_int sa_nil))) (sa_cons (se_tup (sa_cons se_int (sa_cons se_int sa_nil))) (sa_cons (se_tup (sa_cons se_int sa_nil)) (sa_cons (se_tup (sa_cons (se_un us_neg se_int) sa_nil)) (sa_cons (se_tup (sa_cons se_bl sa_nil)) sa_nil)))))))) sa_nil)) (hsz := (len_cons (len_cons len_nil)))))
  (ss_one (ss_ret (se_cmp (os_eq vc) (se_callB (cs_repr vc hgd) rfl T.z_repr (by decide +kernel) (sa_cons (se_refW vc T.F__law_refused rfl T.m__law_refused T.B__law_refused sc__law_refused rfl (Or.inl rfl) (giv_ref T _ rfl rfl) tb rfl T.GT T.inj T.fdv (fun _ _ _ _ _ _ _ vl => (se_call vl (ok_let_through T) (by decide) rfl T.m_let_through T.F_let_through.kp T.B_let_through (sa_cons (sv 3) (sa_cons (sv 24) sa_nil)) (hsz := (len_cons (len_cons len_nil)))))) sa_nil)) (se_callB (cs_repr vc hgd) rfl T.z_repr (by decide +kernel) (sa_cons (se_tup (sa_cons se_str (sa_cons (sv 24) sa_nil))) sa_nil)))))))))))))))))))))))))
end
end K16
set_option Elab.async false
set_option linter.all false
set_option maxRecDepth 100000
set_option maxHeartbeats 4000000
namespace K16
open PySem PySem.Spec PyProof.Rows L2 VL
def isI : D → Bool
  | .int _ => true
  | _ => false
def inB (a b : Int) : D → Bool
  | .int i => decide (a ≤ i) && decide (i ≤ b)
  | _ => false
theorem G_is_integer_eq {x : D} {W : List O} (h : (tyN x).isSome) : G_is_integer [.d x] W = .ok (.d (.bl (isI x))) W := by
  cases x <;> first | (cases h; done) | skip
  all_goals simp [G_is_integer, runF, F_is_integer, isTy, isI, tyN]
theorem G_is_within_eq {x : D} {a b : Int} {W : List O} (h : (tyN x).isSome) : G_is_within [.d x, .d (.int a), .d (.int b)] W = .ok (.d (.bl (inB a b x))) W := by
  have e := G_is_integer_eq (W := W) h
  cases x <;> first | (cases h; done) | skip
  all_goals simp [G_is_within, runF, F_is_within, e, isI, inB]
  rename_i i
  by_cases h1 : a ≤ i <;> simp [h1]
def isRow : D → Bool
  | .lst _ => true
  | .tup _ => true
  | _ => false
theorem G_is_row_eq {x : D} {W : List O} (h : (tyN x).isSome) : G_is_row [.d x] W = .ok (.d (.bl (isRow x))) W := by
  cases x <;> first | (cases h; done) | skip
  all_goals simp [G_is_row, runF, F_is_row, isTy, isRow, tyN]
def tupOf (n : Int) : D → Bool
  | .tup ds => decide ((ds.length : Int) = n)
  | _ => false
theorem eqv_int (i j : Int) : eqS (.int i) (.int j) = some (.bl (decide (i = j))) := by
  unfold eqS
  simp [toPy, PyData.depth, PyData.eqv]
  by_cases h : i = j <;> simp [h]
theorem G_is_tuple_of_eq {x : D} {n : Int} {W : List O} (h : (tyN x).isSome) : G_is_tuple_of [.d x, .d (.int n)] W = .ok (.d (.bl (tupOf n x))) W := by
  cases x <;> first | (cases h; done) | skip
  all_goals simp [G_is_tuple_of, runF, F_is_tuple_of, isTy, tupOf, tyN, eqv_int]
theorem atI_4 {a b c d : D} : atI [a, b, c, d] 0 = some a ∧ atI [a, b, c, d] 1 = some b ∧ atI [a, b, c, d] 2 = some c ∧ atI [a, b, c, d] 3 = some d := ⟨rfl, rfl, rfl, rfl⟩
theorem taken_eq {s : List Int} {E W : List O} {m : Int} (hR : RowE s E W) (h0 : 0 < m) (h1 : m < 1073741824) : ∃ v W', G__law_taken [.o 0, .d (.int m)] W = .ok (.d (.int v)) W' ∧ 0 ≤ v ∧ v < m ∧ RowE s E W' := by
  obtain ⟨p, sd, r, rfl, hp, hs, hs2⟩ := hR
  have hm : m ≠ 0 := by omega
  have hd : ∀ i : Int, CDivD i m := fun i => CDivD_s h0 h1
  have b1 : ∀ i : Int, 0 ≤ i.fmod m := fun i => Int.fmod_nonneg_of_pos i h0
  have b2 : ∀ i : Int, i.fmod m < m := fun i => Int.fmod_lt_of_pos i h0
  by_cases c1 : 0 < r
  · refine ⟨r.fmod m, RWE s p sd (r.fdiv m) E, ?_, b1 _, b2 _, p, sd, _, rfl, hp, hs, hs2⟩
    simp [G__law_taken, runF, F__law_taken, on1, on2, cont, atI, ixN, c1, hm, hd, setW]
  · have c1' : decide (0 < r) = false := decide_eq_false c1
    by_cases c2 : (s.length : Int) < p + 1
    · have n1 : 0 ≤ (sd * 48271 + 11).fmod 2147483647 := Int.fmod_nonneg_of_pos _ (by omega)
      have n2 : (sd * 48271 + 11).fmod 2147483647 < 2147483647 := Int.fmod_lt_of_pos _ (by omega)
      refine ⟨(((sd * 48271 + 11).fmod 2147483647).fdiv 7).fmod m, RWE s (p + 1) ((sd * 48271 + 11).fmod 2147483647) r E, ?_, b1 _, b2 _, _, _, _, rfl, by omega, n1, by omega⟩
      have m1 : CMulD sd 48271 := CMulD_r (by decide)
      have m2 : ∀ i : Int, CDivD i 7 := fun i => CDivD_s (by omega) (by omega)
      simp [G__law_taken, runF, F__law_taken, on1, on2, cont, conts, atI, ixN, c1', c2, hm, setW, m1, m2]
    · have hlt : p.toNat < s.length := by omega
      have c2' : decide ((s.length : Int) < p + 1) = false := decide_eq_false c2
      have eC : atI s p = some s[p.toNat] := by
        have e : p = ((p.toNat : Nat) : Int) := by omega
        conv => lhs; rw [e]
        rw [atI_nat _ _ hlt, List.getElem?_eq_getElem hlt]
      generalize s[p.toNat] = c at eC
      have n1 : 0 ≤ (sd * 48271 + c + 11).fmod 2147483647 := Int.fmod_nonneg_of_pos _ (by omega)
      have n2 : (sd * 48271 + c + 11).fmod 2147483647 < 2147483647 := Int.fmod_lt_of_pos _ (by omega)
      have m1 : CMulD sd 48271 := CMulD_r (by decide)
      have m3 : CPowD 10 18 := by decide
      by_cases c3 : (1000000000000000000 : Int) ≤ c
      · refine ⟨c.fmod m, RWE s (p + 1) ((sd * 48271 + c + 11).fmod 2147483647) (c.fdiv m) E, ?_, b1 _, b2 _, _, _, _, rfl, by omega, n1, by omega⟩
        simp [G__law_taken, runF, F__law_taken, on1, on2, cont, conts, atI_4, c1', c2', hm, hd, setW, ixN, m1, eC, m3, c3]
      · have c3' : decide ((1000000000000000000 : Int) ≤ c) = false := decide_eq_false c3
        refine ⟨c.fmod m, RWE s (p + 1) ((sd * 48271 + c + 11).fmod 2147483647) r E, ?_, b1 _, b2 _, _, _, _, rfl, by omega, n1, by omega⟩
        simp [G__law_taken, runF, F__law_taken, on1, on2, cont, conts, atI_4, c1', c2', hm, hd, setW, ixN, m1, eC, m3, c3']
theorem pick_eq {s : List Int} {E W : List O} {ds : List D} (hR : RowE s E W) (h0 : 0 < ds.length) (h1 : ds.length < 1000000) : ∃ d W', G__law_pick [.o 0, .d (.lst ds)] W = .ok (.d d) W' ∧ d ∈ ds ∧ RowE s E W' := by
  obtain ⟨v, W', e, v0, v1, hR'⟩ := taken_eq (m := (ds.length : Int)) hR (by omega) (by omega)
  have hv : v.toNat < ds.length := by omega
  have ev : v = ((v.toNat : Nat) : Int) := by omega
  have ea : atI ds v = some ds[v.toNat] := by
    conv => lhs; rw [ev]
    rw [atI_nat _ _ hv, List.getElem?_eq_getElem hv]
  obtain ⟨p, sd, r, rfl, _⟩ := id hR
  obtain ⟨p', sd', r', rfl, _⟩ := id hR'
  exact ⟨ds[v.toNat], _, by simp [G__law_pick, runF, F__law_pick, e, ea], List.getElem_mem hv, hR'⟩

/-! ### alike: a thing and itself -/
def okA : Nat → D → Bool
  | _ + 1, .int _ => true
  | _ + 1, .bl _ => true
  | _ + 1, .non => true
  | _ + 1, .str _ => true
  | n + 1, .lst ds => decide (ds.length ≤ 1000000) && ds.all (okA n)
  | n + 1, .tup ds => decide (ds.length ≤ 1000000) && ds.all (okA n)
  | _, _ => false
theorem alike_seq {n : Nat} {ds : List D} {x : D} (hx : x = .lst ds ∨ x = .tup ds) (hl : ds.length ≤ 1000000) {W : List O} (ih : ∀ d ∈ ds, G__law_alike n [.d d, .d d] W = .ok (.d (.bl true)) W) : G__law_alike (n + 1) [.d x, .d x] W = .ok (.d (.bl true)) W := by
  have hlen : lenD x = some (.int ds.length) := by rcases hx with rfl | rfl <;> rfl
  have hix : ∀ i, idxS x (.int i) = atI ds i := fun i => by rcases hx with rfl | rfl <;> rfl
  have e3 : lcL (.nm 2) (tNotD (tTru1 (eFun (G__law_alike n) (aCons (eBin idxS (eVar 0) (eVar 2)) (aCons (eBin idxS (eVar 1) (eVar 2)) aNil))))) (eVar 2) [some (.d x), some (.d x), none, none] ((rngI ds.length).map .int) W = .ok [] W := by
    have := lc_filterm (p := .nm 2) (t := tNotD (tTru1 (eFun (G__law_alike n) (aCons (eBin idxS (eVar 0) (eVar 2)) (aCons (eBin idxS (eVar 1) (eVar 2)) aNil))))) (f := eVar 2) (ρ := [some (.d x), some (.d x), none, none]) (W := W) D.int (fun i => [some (.d x), some (.d x), some (.d (.int i)), none]) (fun _ => false) D.int (rngI ds.length) (fun i hi => ⟨rfl, by
      have hi := rngI_mem.mp hi
      have ha := atI_map (fun d : D => d) ds i hi.1 hi.2
      rw [List.map_id'] at ha
      exact tNot_ok (b := true) (tTru1_ok (x := .bl true) (eFun_ok (a2_ok (eBin_ok rfl rfl ((hix i).trans ha)) (eBin_ok rfl rfl ((hix i).trans ha))) (ih _ (List.getElem_mem _))) rfl), fun h => absurd h (by decide)⟩)
    rw [List.filter_eq_nil_iff.mpr (fun _ _ => Bool.false_ne_true), List.map_nil] at this
    exact this
  have e1 : eqS (.lst []) (.lst []) = some (.bl true) := eqS_nil rfl
  have e4 : ∀ ρ : Rho, (ρ[1]? = some (some (.d x))) → iRng1 (aCons (eCall (one lenD) (aCons (eVar 1) aNil)) aNil) ρ W = .ok ((rngI ds.length).map .int) W := fun ρ h => by
    rw [iRng1_ok (a1_ok (eCall_1 (eVar_s (W := W) 1 ρ _ h) hlen)) (by omega), rngD_eq]
  have e5 : eLc [2] (.nm 2) (iRng1 (aCons (eCall (one lenD) (aCons (eVar 1) aNil)) aNil)) (tNotD (tTru1 (eFun (G__law_alike n) (aCons (eBin idxS (eVar 0) (eVar 2)) (aCons (eBin idxS (eVar 1) (eVar 2)) aNil))))) (eVar 2) [some (.d x), some (.d x), none, none] W = .ok (.d (.lst [])) W :=
    eLc_ok (e4 _ rfl) e3 (by rw [List.length_map, rngI_len, sizeLine_eq]; omega)
  rw [G__law_alike]
  refine runF_rt (ρ := [some (.d x), some (.d x), none, none]) ?_ (take_self W)
  show F__law_alike (G__law_alike n) [some (.d x), some (.d x), none, none] W = _
  have t1 : eCall isiD (aCons (eVar 1) (aCons (eDisp mkTup (aCons (eC (.ty .tuple)) (aCons (eC (.ty .list)) aNil))) aNil)) [some (.d x), some (.d x), none, none] W = .ok (.d (.bl true)) W := by rcases hx with rfl | rfl <;> simp [isTy, tyN]
  have t0 : eCall isiD (aCons (eVar 0) (aCons (eDisp mkTup (aCons (eC (.ty .tuple)) (aCons (eC (.ty .list)) aNil))) aNil)) [some (.d x), some (.d x), none, none] W = .ok (.d (.bl true)) W := by rcases hx with rfl | rfl <;> simp [isTy, tyN]
  have t2 : eBin neS (eCall isiD (aCons (eVar 0) (aCons (eC (.ty .list)) aNil))) (eCall isiD (aCons (eVar 1) (aCons (eC (.ty .list)) aNil))) [some (.d x), some (.d x), none, none] W = .ok (.d (.bl false)) W := by rcases hx with rfl | rfl <;> simp [isTy, tyN, neS_bl]
  unfold F__law_alike
  exact sSeq_rt (sIf_t (tTru1_ok t1 rfl) (sSeq_ok (sIf_n (tOr_ff (tNot_ok (b := true) (tTru1_ok t0 rfl)) (tOf_ok t2))) (sSeq_ok (sIf_n (tOf_ok (eBin_ok (eCall_1 rfl hlen) (eCall_1 rfl hlen) (by rw [neS_int]; simp)))) (sRet_ok (eBin_ok e5 (eDisp_ok aNil_ok rfl (mkLst_s (by decide))) e1)))))
theorem alike_self : ∀ (n : Nat) (x : D) (W : List O), okA n x = true → G__law_alike n [.d x, .d x] W = .ok (.d (.bl true)) W
  | 0, x, W, h => by cases x <;> cases h
  | n + 1, x, W, h => by
    have eN : eqS .non .non = some (.bl true) := eqS_self (p := .none) rfl (by simp [PyData.depth])
    cases x with
    | int i => simp [G__law_alike, runF, F__law_alike, isTy, tyN, isS, isD, eqS_int, eqS_bl]
    | bl b => simp [G__law_alike, runF, F__law_alike, isTy, tyN, isS, isD, eqS_int, eqS_bl]
    | non => simp [G__law_alike, runF, F__law_alike, isTy, tyN, isS, isD, eqS_bl, eN]
    | str s => simp [G__law_alike, runF, F__law_alike, isTy, tyN, isS, isD, eqS_bl, eqS_str]
    | lst ds =>
      have h' := Bool.and_eq_true .. ▸ (show (decide (ds.length ≤ 1000000) && ds.all (okA n)) = true from h)
      exact alike_seq (.inl rfl) (of_decide_eq_true h'.1) fun d hd => alike_self n d W (List.all_eq_true.mp h'.2 d hd)
    | tup ds =>
      have h' := Bool.and_eq_true .. ▸ (show (decide (ds.length ≤ 1000000) && ds.all (okA n)) = true from h)
      exact alike_seq (.inr rfl) (of_decide_eq_true h'.1) fun d hd => alike_self n d W (List.all_eq_true.mp h'.2 d hd)
    | _ => cases h
theorem alike_t {n : Nat} {x y : D} {W : List O} (h : x = y) (hk : okA n y = true) : G__law_alike n [.d x, .d y] W = .ok (.d (.bl true)) W := by subst h; exact alike_self n x W hk
theorem okA_ints {n : Nat} {is : List Int} (h : is.length ≤ 1000000) : okA (n + 2) (.lst (is.map .int)) = true ∧ okA (n + 2) (.tup (is.map .int)) = true := by
  have : (decide ((is.map D.int).length ≤ 1000000) && (is.map D.int).all (okA (n + 1))) = true := by
    rw [List.length_map, decide_eq_true h, List.all_map]
    exact List.all_eq_true.mpr fun _ _ => rfl
  exact ⟨this, this⟩

/-! subsets -/
def Sub : Nat → List (List Int)
  | 0 => [[]]
  | n + 1 => Sub n ++ (Sub n).map (· ++ [(n : Int)])
theorem sub_len : ∀ n, (Sub n).length = 2 ^ n
  | 0 => rfl
  | n + 1 => by simp [Sub, sub_len n]; omega
theorem sub_mem : ∀ (n : Nat) (x : List Int), x ∈ Sub n → (∀ i ∈ x, 0 ≤ i ∧ i < n) ∧ x.length ≤ n
  | 0, x, h => by simp [Sub] at h; subst h; simp
  | n + 1, x, h => by
    rcases List.mem_append.mp h with h | h
    · obtain ⟨h1, h2⟩ := sub_mem n x h
      exact ⟨fun i hi => ⟨(h1 i hi).1, by have := (h1 i hi).2; omega⟩, by omega⟩
    · obtain ⟨y, hy, rfl⟩ := List.mem_map.mp h
      obtain ⟨h1, h2⟩ := sub_mem n y hy
      refine ⟨fun i hi => ?_, by simp; exact h2⟩
      rcases List.mem_append.mp hi with hi | hi
      · exact ⟨(h1 i hi).1, by have := (h1 i hi).2; omega⟩
      · obtain rfl := List.mem_singleton.mp hi; omega
theorem sub_filter (P : Int → Bool) : ∀ n, ((List.range n).map (fun (k : Nat) => (k : Int))).filter P ∈ Sub n
  | 0 => by simp [Sub]
  | n + 1 => by
    rw [List.range_succ, List.map_append, List.filter_append]
    unfold Sub
    cases h : P n with
    | true => 
      refine List.mem_append_right _ (List.mem_map.mpr ⟨_, sub_filter P n, ?_⟩)
      simp [h]
    | false =>
      refine List.mem_append_left _ ?_
      simpa [h] using sub_filter P n
abbrev tD (a : List Int) : D := .tup (a.map .int)
abbrev le2 (a b : List Int) : Prop := PySem.W.dataLt (.tuple (b.map .int)) (.tuple (a.map .int)) = false
abbrev le1 (a b : List Int) : Prop := a.length ≤ b.length ∧ (a.length = b.length → le2 a b)
theorem sub_small {n k : Nat} (hk : k ≤ n) (hn : n ≤ 12) : (Sub k).length ≤ 4096 := by
  rw [sub_len]
  exact Nat.pow_le_pow_right (by omega) (by omega : k ≤ 12)
theorem lsubsets_eq {n : Nat} {W : List O} (hn : n ≤ 12) : ∃ zs : List (List Int), G__law_subsets [.d (.int n)] W = .ok (.d (.lst (zs.map tD))) W ∧ zs.Perm (Sub n) ∧ zs.Pairwise le1 := by
  obtain ⟨zs, s1, s2, s3⟩ := sortL_szs (l := Sub n) (by rw [sizeLine_eq]; have := sub_small (Nat.le_refl n) hn; omega)
  refine ⟨zs, ?_, s2, s3⟩
  have hs := sub_small (Nat.le_refl n) hn
  obtain ⟨ρ', W', e, hW, a2, rfl⟩ := for_idx (p := .nm 2) (body := (sSet 1 (eBin addS (eVar 1) (eLc [4] (.nm 4) (iSeq (eVar 1)) tTru (eBin addS (eVar 4) (eDisp mkTup (aCons (eVar 2) aNil)))))))
    (I := fun k ρ W' => W' = W ∧ ∃ a2, ρ = [some (.d (.int n)), some (.d (.lst ((Sub k).map tD))), a2, none, none]) ((rngI n).map .int) 0 [some (.d (.int n)), some (.d (.lst ((Sub 0).map tD))), none, none, none] W ⟨rfl, none, rfl⟩ fun i hi ρ W' hI => by
      obtain ⟨rfl, a2, rfl⟩ := hI
      rw [rngI_at hi]
      rw [List.length_map, rngI_len] at hi
      have hs := sub_small (n := n) (k := i) (by omega) hn
      rw [Nat.zero_add]
      refine ⟨_, [some (.d (.int n)), some (.d (.lst ((Sub (i + 1)).map tD))), some (.d (.int i)), none, none], W', rfl, sSet_ok (eBin_ok (x := .lst ((Sub i).map tD)) (y := .lst (((Sub i).map (· ++ [(i : Int)])).map tD)) rfl (eLc_ok (ds := (Sub i).map tD) (iSeq_ok rfl (.inl rfl)) ?_ ?_) ?_), rfl, _, rfl⟩
      · rw [List.map_map]
        refine lc_mapm tD (fun a => [some (.d (.int n)), some (.d (.lst ((Sub i).map tD))), some (.d (.int i)), none, some (.d (tD a))]) (fun a => tD (a ++ [(i : Int)])) (Sub i) fun a ha => ⟨rfl, ?_⟩
        have := (sub_mem i a ha).2
        refine eBin_ok (x := tD a) (y := .tup [.int i]) rfl (eDisp_ok (a1_ok rfl) rfl (mkTup_s (by simp))) ?_
        rw [addS_t (by rw [List.length_map, sizeLine_eq]; simp; omega)]
        simp [tD]
      · rw [List.length_map, sizeLine_eq]; omega
      · rw [addS_l (by simp only [List.length_map]; rw [sizeLine_eq]; omega), ← List.map_append]; rfl
  subst hW
  rw [Nat.zero_add, List.length_map, rngI_len] at e
  refine runF_rt (ρ := [some (.d (.int n)), some (.d (.lst ((Sub n).map tD))), a2, none, none]) ?_ (take_self _)
  show F__law_subsets [some (.d (.int n)), none, none, none, none] W' = _
  refine sSeq_ok (sSet_ok (d := .d (.lst ((Sub 0).map tD))) (W1 := W') (eDisp_ok (a1_ok (eDisp_ok aNil_ok rfl (mkTup_s (by simp)))) rfl (mkLst_s (by simp)))) (sSeq_ok (sFor_ok ?_ e) (sRet_ok ?_))
  · rw [iRng1_ok (a1_ok rfl) (by omega), rngD_nat (by omega), Int.toNat_natCast]
  · refine eLc_ok (W1 := W') (ds := zs.map fun a => .tup [.int a.length, .tup (a.map .int)]) (iSeq_ok (eCall_1 (x := .lst ((Sub n).map fun a => .tup [.int a.length, .tup (a.map .int)])) (eLc_ok (W1 := W') (ds := (Sub n).map tD) (iSeq_ok rfl (.inl rfl)) ?_ ?_) (sortedD_l s1)) (.inl rfl)) ?_ ?_
    · exact lc_mapm tD (fun a => [some (.d (.int n)), some (.d (.lst ((Sub n).map tD))), a2, none, some (.d (tD a))]) (fun a => .tup [.int a.length, .tup (a.map .int)]) (Sub n) fun a ha => ⟨rfl, eDisp_ok (a2_ok (eCall_1 rfl (lenD_tm _ _)) rfl) rfl (mkTup_s (by simp))⟩
    · rw [List.length_map, sizeLine_eq]; omega
    · exact lc_mapm (p := .tp [.nm 3, .nm 4]) (f := eVar 4) (ρ := [some (.d (.int n)), some (.d (.lst ((Sub n).map tD))), a2, none, none]) (W := W') (fun a : List Int => .tup [.int a.length, .tup (a.map .int)]) (fun a => [some (.d (.int n)), some (.d (.lst ((Sub n).map tD))), a2, some (.d (.int a.length)), some (.d (tD a))]) tD zs fun a ha => ⟨rfl, rfl⟩
    · rw [List.length_map, s2.length_eq, sizeLine_eq]; omega

section
variable {W : List O}
/-! unlike -/
def unB : SemS := (sIf (tOrD (tOf (eBin eqS (eVar 1) (eDisp mkLst aNil))) (tOf (eBin neS (eBin idxS (eVar 1) (eUn negS (eC (.int 1)))) (eVar 2))))
  (sExpr (eMeth isL mAppend (eVar 1) (aCons (eVar 2) aNil)))
  sNx)
theorem un_loop {y : Vl} : ∀ (is acc : List Int) (a2 : Option Vl), (acc ++ is).Pairwise (· < ·) → (acc ++ is).length ≤ 1000 → ∃ a2', forL (.nm 2) unB (is.map .int) [some y, some (.o W.length), a2] (W ++ [.lst (acc.map .int)]) = .ok .nx [some y, some (.o W.length), a2'] (W ++ [.lst ((acc ++ is).map .int)])
  | [], acc, a2, _, _ => ⟨a2, by rw [List.append_nil]; rfl⟩
  | i :: is, acc, a2, hp, hl => by
    obtain ⟨a2', e⟩ := un_loop (y := y) is (acc ++ [i]) (some (.d (.int i))) (by simpa using hp) (by simpa using hl)
    refine ⟨a2', ?_⟩
    have hb : unB [some y, some (.o W.length), some (.d (.int i))] (W ++ [.lst (acc.map .int)]) = .ok .nx [some y, some (.o W.length), some (.d (.int i))] (W ++ [.lst ((acc ++ [i]).map .int)]) := by
      have hap : sExpr (eMeth isL mAppend (eVar 1) (aCons (eVar 2) aNil)) [some y, some (.o W.length), some (.d (.int i))] (W ++ [.lst (acc.map .int)]) = .ok .nx [some y, some (.o W.length), some (.d (.int i))] (W ++ [.lst ((acc ++ [i]).map .int)]) := by
        rw [sExpr_ok (VL.app_ok (ds := acc.map .int) (W1 := W ++ [.lst (acc.map .int)]) (W2 := W ++ [.lst (acc.map .int)]) (j := W.length) (d := .int i) rfl rfl ⟨_, get_end⟩ get_end (by rw [List.length_map]; simp at hl; omega)), set_lastO, show acc.map D.int ++ [D.int i] = (acc ++ [i]).map .int by simp]
      refine sIf_t ?_ hap
      have t1 : tOf (eBin eqS (eVar 1) (eDisp mkLst aNil)) [some y, some (.o W.length), some (.d (.int i))] (W ++ [.lst (acc.map .int)]) = .ok (acc.map D.int).isEmpty (W ++ [.lst (acc.map .int)]) :=
        tOf_ok (eBin_c (W1 := W ++ [.lst (acc.map .int)]) rfl (eDisp_ok aNil_ok rfl (mkLst_s (by decide))) cont_end rfl (eqS_nil (toPyL_ints _)))
      cases hacc : acc.reverse with
      | nil =>
        rw [List.reverse_eq_nil_iff.mp hacc] at t1 ⊢
        exact tOr_t t1
      | cons z r =>
        have ea : acc = r.reverse ++ [z] := by rw [← List.reverse_reverse acc, hacc, List.reverse_cons]
        have hz : z < i := by
          rw [ea, List.append_assoc] at hp
          have := (List.pairwise_append.mp hp).2.1
          exact (List.pairwise_cons.mp this).1 i (by simp)
        have em : (acc.map D.int).isEmpty = false := by rw [ea]; simp
        rw [em] at t1
        refine tOr_ff t1 (tOf_ok (eBin_ok (x := .int z) (y := .int i) (eBin_c (y := .int (-1)) (W1 := W ++ [.lst (acc.map .int)]) rfl rfl cont_end rfl ?_) rfl ?_))
        · rw [ea, List.map_append]
          exact VL.atI_last _ _
        · rw [neS_int, decide_eq_false (by omega)]; rfl
    rw [List.map_cons, forL_cons (ρ' := [some y, some (.o W.length), some (.d (.int i))]) rfl, hb, sbind_ok]
    rw [show acc ++ i :: is = acc ++ [i] ++ is by simp]
    exact e
theorem unlike_eq {is : List Int} (hp : is.Pairwise (· < ·)) (hl : is.length ≤ 1000) : G__law_unlike [.d (.tup (is.map .int))] W = .ok (.d (.lst (is.map .int))) W := by
  obtain ⟨a2', e⟩ := un_loop (W := W) (y := .d (.tup (is.map .int))) is [] none (by simpa using hp) (by simpa using hl)
  refine runF_obj (ρ := [some (.d (.tup (is.map .int))), some (.o W.length), a2']) ?_
  rw [List.nil_append] at e
  have es := sortL_ints (is := is) (by rw [sizeLine_eq]; omega)
  rw [sort_of_perm (List.Perm.refl _) (hp.imp fun {a b} h => by omega)] at es
  exact sSeq_ok (sSet_ok newL_ok) (sSeq_ok (sFor_ok (iSeq_ok (eCall_1 (eCall_1 (x := .tup (is.map .int)) (z := .lst (is.map .int)) rfl rfl) (sortedD_l es)) (.inl rfl)) e) (sRet_ok rfl))
end

end K16
set_option Elab.async false
set_option linter.all false
namespace K16
abbrev Dc := Int × Int × Int
def ind (b : Bool) : Int := if b then 1 else 0
/-! ### sums over ducts with flows -/
def net (g : Dc → Int) : List Dc → List Int → Int
  | d :: ds, f :: fs => f * g d + net g ds fs
  | _, _ => 0
theorem net_set (g : Dc → Int) : ∀ (ds : List Dc) (fs : List Int) (i : Nat) (d : Dc) (f δ : Int), ds[i]? = some d → fs[i]? = some f → net g ds (fs.set i (f + δ)) = net g ds fs + δ * g d
  | [], _, i, d, f, δ, h, _ => by simp at h
  | _ :: _, [], i, d, f, δ, _, h => by simp at h
  | d :: ds, f :: fs, 0, d', f', δ, h, h' => by
    simp at h h'
    subst h h'
    simp only [List.set_cons_zero, net, Int.add_mul]
    omega
  | d :: ds, f :: fs, i + 1, d', f', δ, h, h' => by
    simp at h h'
    simp only [List.set_cons_succ, net, net_set g ds fs i d' f' δ h h']
    omega
theorem net_add (g g' : Dc → Int) : ∀ (ds : List Dc) (fs : List Int), net (fun d => g d + g' d) ds fs = net g ds fs + net g' ds fs
  | [], _ => by simp [net]
  | _ :: _, [] => by simp [net]
  | d :: ds, f :: fs => by simp only [net, net_add g g' ds fs, Int.mul_add]; omega
theorem net_neg (g : Dc → Int) : ∀ (ds : List Dc) (fs : List Int), net (fun d => - g d) ds fs = - net g ds fs
  | [], _ => by simp [net]
  | _ :: _, [] => by simp [net]
  | d :: ds, f :: fs => by simp only [net, net_neg g ds fs, Int.mul_neg]; omega
theorem net_zero : ∀ (ds : List Dc) (fs : List Int), net (fun _ => 0) ds fs = 0
  | [], _ => rfl
  | _ :: _, [] => rfl
  | d :: ds, f :: fs => by simp only [net, net_zero ds fs, Int.mul_zero]; rfl
theorem net_congr {g g' : Dc → Int} : ∀ (ds : List Dc) (fs : List Int), (∀ d ∈ ds, g d = g' d) → net g ds fs = net g' ds fs
  | [], _, _ => by simp [net]
  | _ :: _, [], _ => by simp [net]
  | d :: ds, f :: fs, h => by simp only [net, h d List.mem_cons_self, net_congr ds fs fun x hx => h x (List.mem_cons_of_mem _ hx)]
/-- flows that can be -/
def okF : List Dc → List Int → Prop
  | d :: ds, f :: fs => (0 ≤ f ∧ f ≤ d.2.2) ∧ okF ds fs
  | [], [] => True
  | _, _ => False
theorem okF_len : ∀ {ds : List Dc} {fs : List Int}, okF ds fs → fs.length = ds.length
  | [], [], _ => rfl
  | [], _ :: _, h => h.elim
  | _ :: _, [], h => h.elim
  | _ :: _, _ :: _, h => by simp [okF_len h.2]
theorem okF_at : ∀ {ds : List Dc} {fs : List Int} {i : Nat} {d : Dc} {f : Int}, okF ds fs → ds[i]? = some d → fs[i]? = some f → 0 ≤ f ∧ f ≤ d.2.2
  | [], _, _, _, _, _, h, _ => by simp at h
  | _ :: _, [], _, _, _, h, _, _ => h.elim
  | d :: ds, f :: fs, 0, d', f', h, h1, h2 => by simp at h1 h2; subst h1 h2; exact h.1
  | d :: ds, f :: fs, i + 1, d', f', h, h1, h2 => okF_at (i := i) h.2 (by simpa using h1) (by simpa using h2)
theorem okF_set : ∀ {ds : List Dc} {fs : List Int} {i : Nat} {d : Dc} {f : Int}, okF ds fs → ds[i]? = some d → 0 ≤ f ∧ f ≤ d.2.2 → okF ds (fs.set i f)
  | [], _, _, _, _, _, h, _ => by simp at h
  | _ :: _, [], _, _, _, h, _, _ => h.elim
  | d :: ds, f :: fs, 0, d', f', h, h1, h2 => by simp at h1; subst h1; exact ⟨h2, h.2⟩
  | d :: ds, f :: fs, i + 1, d', f', h, h1, h2 => ⟨h.1, okF_set (i := i) h.2 (by simpa using h1) h2⟩
theorem net_le {g h : Dc → Int} : ∀ {ds : List Dc} {fs : List Int}, okF ds fs → (∀ d f, 0 ≤ f → f ≤ d.2.2 → f * g d ≤ h d) → net g ds fs ≤ (ds.map h).sum ∧ (net g ds fs = (ds.map h).sum → ∀ (i : Nat) d f, ds[i]? = some d → fs[i]? = some f → f * g d = h d)
  | [], [], _, _ => ⟨by simp [net], fun _ i d f e => by simp at e⟩
  | [], _ :: _, k, _ => k.elim
  | _ :: _, [], k, _ => k.elim
  | d :: ds, f :: fs, k, hh => by
    obtain ⟨a1, a2⟩ := net_le (g := g) (h := h) k.2 hh
    have b := hh d f k.1.1 k.1.2
    simp only [net, List.map_cons, List.sum_cons]
    refine ⟨by omega, fun e i d' f' h1 h2 => ?_⟩
    cases i with
    | zero => simp at h1 h2; subst h1 h2; omega
    | succ i => exact a2 (by omega) i d' f' (by simpa using h1) (by simpa using h2)
/-! ### what comes and goes -/
def exG (v : Int) (d : Dc) : Int := ind (decide (d.2.1 = v)) - ind (decide (d.1 = v))
def exc (ds : List Dc) (fs : List Int) (v : Int) : Int := net (exG v) ds fs
def cutG (S : Int → Bool) (d : Dc) : Int := ind (S d.1) - ind (S d.2.1)
def thrG (S : Int → Bool) (d : Dc) : Int := if S d.1 && !S d.2.1 then d.2.2 else 0
def through (S : Int → Bool) (ds : List Dc) : Int := (ds.map (thrG S)).sum
def rng10 : List Int := (List.range 10).map fun (i : Nat) => (i : Int)
def okDs (ds : List Dc) : Prop := ∀ d ∈ ds, 0 ≤ d.1 ∧ d.1 ≤ 9 ∧ 0 ≤ d.2.1 ∧ d.2.1 ≤ 9 ∧ d.1 ≠ d.2.1 ∧ 0 ≤ d.2.2 ∧ d.2.2 ≤ 100
theorem rng10_mem {v : Int} : v ∈ rng10 ↔ 0 ≤ v ∧ v ≤ 9 := by
  unfold rng10
  rw [List.mem_map]
  constructor
  · rintro ⟨i, hi, rfl⟩
    have := List.mem_range.mp hi
    omega
  · intro h
    exact ⟨v.toNat, List.mem_range.mpr (by omega), by omega⟩
theorem rng10_nodup : rng10.Nodup := by decide
theorem ind_sum (S : Int → Bool) (x : Int) : ∀ (L : List Int), L.Nodup → ((L.filter S).map fun v => ind (decide (x = v))).sum = ind (decide (x ∈ L) && S x)
  | [], _ => by simp [ind]
  | v :: L, h => by
    have h' := List.nodup_cons.mp h
    have ih := ind_sum S x L h'.2
    by_cases hv : x = v
    · subst hv
      have hx : decide (x ∈ L) = false := decide_eq_false h'.1
      rw [hx, Bool.false_and] at ih
      cases hs : S x with
      | true => rw [List.filter_cons_of_pos hs, List.map_cons, List.sum_cons, ih]; simp [ind, hs]
      | false => rw [List.filter_cons_of_neg (by rw [hs]; decide), ih]; simp [ind, hs]
    · have hm : decide (x ∈ v :: L) = decide (x ∈ L) := by simp [hv]
      rw [hm]
      cases hs : S v with
      | true => rw [List.filter_cons_of_pos hs, List.map_cons, List.sum_cons, ih]; simp [ind, hv]
      | false => rw [List.filter_cons_of_neg (by rw [hs]; decide), ih]
theorem net_sum (G : Int → Dc → Int) (ds : List Dc) (fs : List Int) : ∀ L : List Int, (L.map fun v => net (G v) ds fs).sum = net (fun d => (L.map fun v => G v d).sum) ds fs
  | [] => by simp [net_zero]
  | v :: L => by
    simp only [List.map_cons, List.sum_cons, net_sum G ds fs L]
    rw [net_add]
theorem sum_one {f : Int → Int} {b : Int} : ∀ {L : List Int}, L.Nodup → b ∈ L → (∀ v ∈ L, v ≠ b → f v = 0) → (L.map f).sum = f b
  | v :: L, hn, hb, h => by
    have h' := List.nodup_cons.mp hn
    simp only [List.map_cons, List.sum_cons]
    rcases List.mem_cons.mp hb with rfl | hb
    · have : (L.map f).sum = 0 := by
        have : ∀ L : List Int, (∀ v ∈ L, f v = 0) → (L.map f).sum = 0 := fun L => by
          induction L with
          | nil => intro _; rfl
          | cons a L ih => intro k; simp only [List.map_cons, List.sum_cons, k a List.mem_cons_self, ih fun v hv => k v (List.mem_cons_of_mem _ hv)]; rfl
        exact this L fun v hv => h v (List.mem_cons_of_mem _ hv) fun e => h'.1 (e ▸ hv)
      omega
    · have hv : v ≠ b := fun e => h'.1 (e ▸ hb)
      rw [h v List.mem_cons_self hv, sum_one h'.2 hb fun u hu => h u (List.mem_cons_of_mem _ hu)]
      omega
theorem map_sub_sum {α : Type} (f g : α → Int) : ∀ L : List α, (L.map fun v => f v - g v).sum = (L.map f).sum - (L.map g).sum
  | [] => rfl
  | a :: L => by simp only [List.map_cons, List.sum_cons, map_sub_sum f g L]; omega
section
variable {ds : List Dc} {fs : List Int} {b e : Int} {S : Int → Bool}
theorem cut_val (hd : okDs ds) (hb : 0 ≤ b ∧ b ≤ 9) (sb : S b = true) (se : S e = false) (hz : ∀ v, v ≠ b → v ≠ e → exc ds fs v = 0) : net (cutG S) ds fs = - exc ds fs b := by
  have h1 : ((rng10.filter S).map fun v => exc ds fs v).sum = exc ds fs b := by
    refine sum_one (List.Nodup.sublist List.filter_sublist rng10_nodup) (List.mem_filter.mpr ⟨rng10_mem.mpr hb, sb⟩) fun v hv hne => hz v hne fun ev => ?_
    subst ev
    have := (List.mem_filter.mp hv).2
    rw [se] at this; cases this
  have h2 := net_sum exG ds fs (rng10.filter S)
  have h3 : net (fun d => ((rng10.filter S).map fun v => exG v d).sum) ds fs = net (fun d => - cutG S d) ds fs := net_congr ds fs fun d hd' => by
    obtain ⟨a1, a2, a3, a4, _⟩ := hd d hd'
    unfold exG cutG
    rw [map_sub_sum, ind_sum S d.2.1 rng10 rng10_nodup, ind_sum S d.1 rng10 rng10_nodup]
    rw [decide_eq_true (rng10_mem.mpr ⟨a3, a4⟩), decide_eq_true (rng10_mem.mpr ⟨a1, a2⟩)]
    simp only [Bool.true_and]
    omega
  rw [net_neg] at h3
  have h4 : ((rng10.filter S).map fun v => exc ds fs v).sum = ((rng10.filter S).map fun v => net (exG v) ds fs).sum := rfl
  omega
theorem thr_le (d : Dc) (f : Int) (h0 : 0 ≤ f) (h1 : f ≤ d.2.2) : f * cutG S d ≤ thrG S d := by
  unfold cutG thrG ind
  cases S d.1 <;> cases S d.2.1 <;> simp <;> omega
/-- no side lets less through -/
theorem cut_ge (hd : okDs ds) (hf : okF ds fs) (hb : 0 ≤ b ∧ b ≤ 9) (sb : S b = true) (se : S e = false) (hz : ∀ v, v ≠ b → v ≠ e → exc ds fs v = 0) :
    - exc ds fs b ≤ through S ds ∧ (- exc ds fs b = through S ds → ∀ (i : Nat) d f, ds[i]? = some d → fs[i]? = some f → (S d.1 = true → S d.2.1 = false → f = d.2.2) ∧ (S d.2.1 = true → S d.1 = false → f = 0)) := by
  obtain ⟨h1, h2⟩ := net_le (g := cutG S) (h := thrG S) hf (fun d f => thr_le d f)
  rw [cut_val hd hb sb se hz] at h1 h2
  refine ⟨h1, fun q i d f e1 e2 => ?_⟩
  have := h2 q i d f e1 e2
  unfold cutG thrG ind at this
  refine ⟨fun s1 s2 => ?_, fun s1 s2 => ?_⟩ <;> simp [s1, s2] at this <;> omega
theorem cut_eq (hd : okDs ds) (hf : okF ds fs) (hb : 0 ≤ b ∧ b ≤ 9) (sb : S b = true) (se : S e = false) (hz : ∀ v, v ≠ b → v ≠ e → exc ds fs v = 0)
    (hc : ∀ (i : Nat) d f, ds[i]? = some d → fs[i]? = some f → (S d.1 = true → S d.2.1 = false → f = d.2.2) ∧ (S d.2.1 = true → S d.1 = false → f = 0)) : - exc ds fs b = through S ds := by
  rw [← cut_val hd hb sb se hz]
  unfold through
  clear hz hd
  induction ds generalizing fs with
  | nil => cases fs <;> rfl
  | cons d ds ih =>
    cases fs with
    | nil => exact hf.elim
    | cons f fs =>
      have := ih (fs := fs) hf.2 fun i d f h1 h2 => hc (i + 1) d f (by simpa using h1) (by simpa using h2)
      have h0 := hc 0 d f rfl rfl
      simp only [net, List.map_cons, List.sum_cons, this]
      congr 1
      unfold cutG thrG ind
      cases s1 : S d.1 <;> cases s2 : S d.2.1 <;> simp
      · exact h0.2 s2 s1
      · exact h0.1 s1 s2
end
/-! ### what can be reached -/
abbrev Pv := Option (Int × Nat × Int)
abbrev keys (B : List (Int × Pv)) : List Int := B.map (·.1)
def Edge (ds : List Dc) (fs : List Int) (p k : Int) (i : Nat) (m : Int) : Prop := ∃ d f, ds[i]? = some d ∧ fs[i]? = some f ∧ 0 < m ∧ ((d.1 = p ∧ d.2.1 = k ∧ m = d.2.2 - f) ∨ (d.2.1 = p ∧ d.1 = k ∧ m = f))
inductive RB (ds : List Dc) (fs : List Int) (b : Int) : List (Int × Pv) → Prop
  | base : RB ds fs b [(b, none)]
  | snoc {B : List (Int × Pv)} {k p : Int} {i : Nat} {m : Int} : RB ds fs b B → k ∉ keys B → p ∈ keys B → Edge ds fs p k i m → RB ds fs b (B ++ [(k, some (p, i, m))])
section
variable {ds : List Dc} {fs : List Int} {b : Int}
theorem RB.begin {B : List (Int × Pv)} (h : RB ds fs b B) : b ∈ keys B := by
  induction h with
  | base => simp
  | snoc _ _ _ _ ih => rw [keys, List.map_append]; exact List.mem_append_left _ ih
theorem RB.nodup {B : List (Int × Pv)} (h : RB ds fs b B) : (keys B).Nodup := by
  induction h with
  | base => simp
  | @snoc B k p i m _ hk _ _ ih =>
    rw [keys, List.map_append]
    refine List.nodup_append.mpr ⟨ih, by simp, fun x hx y hy e => ?_⟩
    simp at hy
    subst hy e
    exact hk hx
theorem RB.within {B : List (Int × Pv)} (h : RB ds fs b B) (hd : okDs ds) (hb : 0 ≤ b ∧ b ≤ 9) : ∀ k ∈ keys B, 0 ≤ k ∧ k ≤ 9 := by
  induction h with
  | base => intro k hk; simp at hk; subst hk; exact hb
  | @snoc B k p i m _ _ _ he ih =>
    intro x hx
    rw [keys, List.map_append] at hx
    rcases List.mem_append.mp hx with hx | hx
    · exact ih x hx
    · simp at hx
      subst hx
      obtain ⟨d, f, h1, _, _, h | h⟩ := he
      · obtain ⟨_, a⟩ := h
        have := hd d (List.mem_of_getElem? h1)
        omega
      · have := hd d (List.mem_of_getElem? h1)
        omega
theorem pig_le {α : Type} [DecidableEq α] : ∀ (I J : List α), I.Nodup → (∀ x ∈ I, x ∈ J) → I.length ≤ J.length
  | [], J, _, _ => Nat.zero_le _
  | x :: I, J, hn, h => by
    obtain ⟨A, C, rfl⟩ := List.append_of_mem (h x List.mem_cons_self)
    have hn' := List.nodup_cons.mp hn
    have := pig_le I (A ++ C) hn'.2 fun y hy => by
      have := h y (List.mem_cons_of_mem _ hy)
      rcases List.mem_append.mp this with z | z
      · exact List.mem_append_left _ z
      · rcases List.mem_cons.mp z with rfl | z
        · exact absurd hy hn'.1
        · exact List.mem_append_right _ z
    simp only [List.length_append, List.length_cons] at this ⊢
    omega
theorem RB.len {B : List (Int × Pv)} (h : RB ds fs b B) (hd : okDs ds) (hb : 0 ≤ b ∧ b ≤ 9) : B.length ≤ 10 := by
  have := pig_le (keys B) rng10 h.nodup fun k hk => rng10_mem.mpr (h.within hd hb k hk)
  simpa [rng10] using this
/-- who holds the beginning and all that follow holds what is reached -/
theorem RB.sub {B : List (Int × Pv)} (h : RB ds fs b B) {S : Int → Prop} (sb : S b) (hs : ∀ p k i m, S p → Edge ds fs p k i m → S k) : ∀ k ∈ keys B, S k := by
  induction h with
  | base => intro k hk; simp at hk; subst hk; exact sb
  | @snoc B k p i m _ _ hp he ih =>
    intro x hx
    rw [keys, List.map_append] at hx
    rcases List.mem_append.mp hx with hx | hx
    · exact ih x hx
    · simp at hx; subst hx; exact hs p _ i m (ih p hp) he
/-- the way back -/
inductive Wk (B : List (Int × Pv)) (b : Int) : Int → List (Int × Int × Nat × Int) → Prop
  | nil : B.lookup b = some none → Wk B b b []
  | cons {k p : Int} {i : Nat} {m : Int} {l : List (Int × Int × Nat × Int)} : B.lookup k = some (some (p, i, m)) → Wk B b p l → Wk B b k ((k, p, i, m) :: l)
theorem lookup_app {B C : List (Int × Pv)} {k : Int} {v : Pv} (h : B.lookup k = some v) : (B ++ C).lookup k = some v := by
  rw [List.lookup_append, h]; rfl
theorem lookup_none {B : List (Int × Pv)} {k : Int} (h : k ∉ keys B) : B.lookup k = none := by
  rw [List.lookup_eq_none_iff]
  intro p hp
  have : k ≠ p.1 := fun e => h (List.mem_map.mpr ⟨p, hp, e.symm⟩)
  simp [this]
theorem Wk.app {B C : List (Int × Pv)} {k : Int} {l : List (Int × Int × Nat × Int)} (h : Wk B b k l) : Wk (B ++ C) b k l := by
  induction h with
  | nil h => exact .nil (lookup_app h)
  | cons h _ ih => exact .cons (lookup_app h) ih
/-- the steps of a way, all of them edges -/
structure Way (ds : List Dc) (fs : List Int) (B : List (Int × Pv)) (b k : Int) (l : List (Int × Int × Nat × Int)) : Prop where
  w : Wk B b k l
  nd : (l.map (·.1) ++ [b]).Nodup
  inn : ∀ s ∈ l, s.1 ∈ keys B
  ed : ∀ s ∈ l, Edge ds fs s.2.1 s.1 s.2.2.1 s.2.2.2
  len : l.length ≤ B.length
theorem RB.way {B : List (Int × Pv)} (h : RB ds fs b B) : ∀ k ∈ keys B, ∃ l, Way ds fs B b k l := by
  induction h with
  | base =>
    intro k hk
    simp at hk
    subst hk
    exact ⟨[], ⟨.nil (by simp), by simp, by simp, by simp, by simp⟩⟩
  | @snoc B k p i m hB hk hp he ih =>
    intro x hx
    rw [keys, List.map_append] at hx
    rcases List.mem_append.mp hx with hx | hx
    · obtain ⟨l, w⟩ := ih x hx
      exact ⟨l, w.w.app, w.nd, fun s hs => by rw [keys, List.map_append]; exact List.mem_append_left _ (w.inn s hs), w.ed, by have := w.len; simp; omega⟩
    · simp at hx
      subst hx
      obtain ⟨l, w⟩ := ih p hp
      refine ⟨(x, p, i, m) :: l, .cons ?_ w.w.app, ?_, ?_, ?_, ?_⟩
      · rw [List.lookup_append, lookup_none hk]; simp
      · rw [List.map_cons, List.cons_append]
        refine List.nodup_cons.mpr ⟨fun hm => ?_, w.nd⟩
        rcases List.mem_append.mp hm with hm | hm
        · obtain ⟨s, hs, e⟩ := List.mem_map.mp hm
          exact hk (by rw [← show s.1 = x from e]; exact w.inn s hs)
        · simp at hm
          exact hk (hm ▸ hB.begin)
      · intro s hs
        rw [keys, List.map_append]
        rcases List.mem_cons.mp hs with rfl | hs
        · exact List.mem_append_right _ (by simp)
        · exact List.mem_append_left _ (w.inn s hs)
      · intro s hs
        rcases List.mem_cons.mp hs with rfl | hs
        · exact he
        · exact w.ed s hs
      · have := w.len; simp; omega
end
/-! ### more along a way -/
def sgn (ds : List Dc) (i : Nat) (k more : Int) : Int := if (ds.getD i (0, 0, 0)).2.1 = k then more else - more
def applyW (ds : List Dc) (more : Int) : List (Int × Int × Nat × Int) → List Int → List Int
  | [], fs => fs
  | s :: l, fs => applyW ds more l (fs.set s.2.2.1 (fs.getD s.2.2.1 0 + sgn ds s.2.2.1 s.1 more))
section
variable {ds : List Dc} {b more : Int}
theorem getD_of {α : Type} {l : List α} {i : Nat} {x y : α} (h : l[i]? = some x) : l.getD i y = x := by rw [List.getD_eq_getElem?_getD, h]; rfl
/-- the indexes of a way are unlike -/
theorem way_idx {fs : List Int} {B : List (Int × Pv)} {k : Int} {l : List (Int × Int × Nat × Int)} (hd : okDs ds) (w : Way ds fs B b k l) : (l.map (·.2.2.1)).Nodup := by
  obtain ⟨w, nd, inn, ed, len⟩ := w
  clear inn len
  induction w with
  | nil _ => simp
  | @cons k p i m l hl hw ih =>
    rw [List.map_cons, List.cons_append] at nd
    have nd' := List.nodup_cons.mp nd
    have ih := ih nd'.2 fun s hs => ed s (List.mem_cons_of_mem _ hs)
    rw [List.map_cons, List.nodup_cons]
    refine ⟨fun hm => ?_, ih⟩
    obtain ⟨s, hs, e⟩ := List.mem_map.mp hm
    obtain ⟨d, f, d1, _, _, h1⟩ := ed (k, p, i, m) List.mem_cons_self
    obtain ⟨d', f', d2, _, _, h2⟩ := ed s (List.mem_cons_of_mem _ hs)
    simp only at d1 h1 e
    rw [e, d1] at d2
    cases d2
    have hks : s.1 ≠ k := fun z => nd'.1 (List.mem_append_left _ (List.mem_map.mpr ⟨s, hs, z⟩))
    have hk : s.2.1 = k := by
      rcases h1 with h1 | h1 <;> rcases h2 with h2 | h2 <;> omega
    -- the place before s is k: it stands behind in the way
    have key : ∀ {p : Int} {l : List (Int × Int × Nat × Int)}, Wk B b p l → ∀ s ∈ l, s.2.1 ∈ l.map (·.1) ++ [b] := by
      intro p l hw
      induction hw with
      | nil _ => intro s hs; cases hs
      | @cons k p i m l _ hw ih =>
        intro s hs
        rcases List.mem_cons.mp hs with rfl | hs
        · cases hw with
          | nil _ => simp
          | cons _ _ => simp
        · rw [List.map_cons, List.cons_append]; exact List.mem_cons_of_mem _ (ih s hs)
    exact nd'.1 (hk ▸ key hw s hs)
theorem apply_at : ∀ (l : List (Int × Int × Nat × Int)) (fs : List Int) (j : Nat), j ∉ l.map (·.2.2.1) → (applyW ds more l fs)[j]? = fs[j]?
  | [], fs, j, _ => rfl
  | s :: l, fs, j, h => by
    rw [List.map_cons, List.mem_cons, not_or] at h
    unfold applyW
    rw [apply_at l _ j h.2, List.getElem?_set_ne (fun e => h.1 e.symm)]
/-- what the steps do to the flows -/
theorem apply_ok : ∀ (l : List (Int × Int × Nat × Int)) (fs gs : List Int), (l.map (·.2.2.1)).Nodup → okF ds gs → (∀ s ∈ l, gs[s.2.2.1]? = fs[s.2.2.1]?) → (∀ s ∈ l, Edge ds fs s.2.1 s.1 s.2.2.1 s.2.2.2 ∧ more ≤ s.2.2.2) → 0 ≤ more → okDs ds → okF ds (applyW ds more l gs)
  | [], fs, gs, _, h, _, _, _, _ => h
  | s :: l, fs, gs, hn, hg, he, hs, hm, hd => by
    rw [List.map_cons, List.nodup_cons] at hn
    unfold applyW
    obtain ⟨⟨d, f, d1, f1, m0, h⟩, hle⟩ := hs s List.mem_cons_self
    have hgi : gs[s.2.2.1]? = some f := (he s List.mem_cons_self).trans f1
    have hb := okF_at hg d1 hgi
    have hne := hd d (List.mem_of_getElem? d1)
    refine apply_ok l fs _ hn.2 (okF_set hg d1 ?_) (fun t ht => ?_) (fun t ht => hs t (List.mem_cons_of_mem _ ht)) hm hd
    · unfold sgn
      rw [getD_of hgi, getD_of d1]
      rcases h with ⟨h1, h2, h3⟩ | ⟨h1, h2, h3⟩
      · rw [if_pos h2]; omega
      · rw [if_neg (by omega)]; omega
    · rw [List.getElem?_set_ne fun (e : s.2.2.1 = t.2.2.1) => hn.1 (List.mem_map.mpr ⟨t, ht, e.symm⟩)]
      exact he t (List.mem_cons_of_mem _ ht)
theorem apply_exc {fs : List Int} {B : List (Int × Pv)} {k : Int} {l : List (Int × Int × Nat × Int)} (hd : okDs ds) (w : Wk B b k l) : ∀ gs : List Int, gs.length = ds.length → (∀ s ∈ l, Edge ds fs s.2.1 s.1 s.2.2.1 s.2.2.2) →
    ∀ v, exc ds (applyW ds more l gs) v = exc ds gs v + more * (ind (decide (k = v)) - ind (decide (b = v))) := by
  induction w with
  | nil _ => intro gs _ _ v; simp [applyW]
  | @cons k p i m l _ _ ih =>
    intro gs hl he v
    obtain ⟨d, f, d1, f1, m0, h⟩ := he (k, p, i, m) List.mem_cons_self
    simp only at d1 f1 m0 h
    have hi : i < ds.length := (List.getElem?_eq_some_iff.mp d1).1
    have hgi : gs[i]? = some (gs[i]'(by omega)) := List.getElem?_eq_getElem _
    unfold applyW
    simp only
    rw [getD_of hgi, ih _ (by simp; exact hl) (fun s hs => he s (List.mem_cons_of_mem _ hs)) v]
    unfold exc
    rw [net_set (exG v) ds gs i d _ _ d1 hgi]
    unfold sgn
    rw [getD_of d1]
    have hne := hd d (List.mem_of_getElem? d1)
    rcases h with ⟨h1, h2, h3⟩ | ⟨h1, h2, h3⟩
    · rw [if_pos h2]
      unfold exG
      rw [h1, h2]
      simp only [Int.mul_sub]
      omega
    · rw [if_neg (by omega)]
      unfold exG
      rw [h1, h2]
      simp only [Int.mul_sub, Int.neg_mul]
      omega
end
/-! ### the walk that reaches -/
abbrev St := List (Int × Pv) × List Int
def edgeA (here : Int) (i : Nat) (d : Dc) (f : Int) (s : St) : St := if d.1 = here ∧ d.2.1 ∉ keys s.1 ∧ f < d.2.2 then (s.1 ++ [(d.2.1, some (d.1, i, d.2.2 - f))], s.2 ++ [d.2.1]) else s
def edgeB (here : Int) (i : Nat) (d : Dc) (f : Int) (s : St) : St := if d.2.1 = here ∧ d.1 ∉ keys s.1 ∧ 0 < f then (s.1 ++ [(d.1, some (d.2.1, i, f))], s.2 ++ [d.1]) else s
def turn (here : Int) : Nat → List Dc → List Int → St → St
  | i, d :: ds, f :: fs, s => turn here (i + 1) ds fs (edgeB here i d f (edgeA here i d f s))
  | _, _, _, s => s
def bfs (ds : List Dc) (fs : List Int) : Nat → St → St
  | n + 1, (B, h :: Q) => bfs ds fs n (turn h 0 ds fs (B, Q))
  | _, s => s
def Ext (s s' : St) : Prop := ∃ new : List (Int × Pv), s'.1 = s.1 ++ new ∧ s'.2 = s.2 ++ keys new
theorem Ext.refl (s : St) : Ext s s := ⟨[], by simp, by simp⟩
theorem Ext.trans {s s1 s2 : St} (a : Ext s s1) (b : Ext s1 s2) : Ext s s2 := by
  obtain ⟨n1, a1, a2⟩ := a
  obtain ⟨n2, b1, b2⟩ := b
  exact ⟨n1 ++ n2, by rw [b1, a1, List.append_assoc], by rw [b2, a2, List.append_assoc, keys, keys, keys, List.map_append]⟩
theorem Ext.key {s s' : St} (a : Ext s s') {k : Int} (h : k ∈ keys s.1) : k ∈ keys s'.1 := by
  obtain ⟨n, a1, _⟩ := a
  rw [a1, keys, List.map_append]; exact List.mem_append_left _ h
section
variable {ds : List Dc} {fs : List Int} {b : Int}
theorem edgeA_ok {here : Int} {i : Nat} {d : Dc} {f : Int} {s : St} (h : RB ds fs b s.1) (hh : here ∈ keys s.1) (h1 : ds[i]? = some d) (h2 : fs[i]? = some f) :
    RB ds fs b (edgeA here i d f s).1 ∧ Ext s (edgeA here i d f s) ∧ (d.1 = here → f < d.2.2 → d.2.1 ∈ keys (edgeA here i d f s).1) := by
  unfold edgeA
  split
  · rename_i c
    refine ⟨.snoc h c.2.1 (c.1 ▸ hh) ⟨d, f, h1, h2, by omega, .inl ⟨rfl, rfl, rfl⟩⟩, ⟨[_], rfl, rfl⟩, fun _ _ => ?_⟩
    rw [keys, List.map_append]; exact List.mem_append_right _ (by simp)
  · rename_i c
    refine ⟨h, Ext.refl s, fun e1 e2 => ?_⟩
    exact Classical.byContradiction fun hn => c ⟨e1, hn, e2⟩
theorem edgeB_ok {here : Int} {i : Nat} {d : Dc} {f : Int} {s : St} (h : RB ds fs b s.1) (hh : here ∈ keys s.1) (h1 : ds[i]? = some d) (h2 : fs[i]? = some f) :
    RB ds fs b (edgeB here i d f s).1 ∧ Ext s (edgeB here i d f s) ∧ (d.2.1 = here → 0 < f → d.1 ∈ keys (edgeB here i d f s).1) := by
  unfold edgeB
  split
  · rename_i c
    refine ⟨.snoc h c.2.1 (c.1 ▸ hh) ⟨d, f, h1, h2, by omega, .inr ⟨rfl, rfl, rfl⟩⟩, ⟨[_], rfl, rfl⟩, fun _ _ => ?_⟩
    rw [keys, List.map_append]; exact List.mem_append_right _ (by simp)
  · rename_i c
    refine ⟨h, Ext.refl s, fun e1 e2 => ?_⟩
    exact Classical.byContradiction fun hn => c ⟨e1, hn, e2⟩
theorem turn_ok {here : Int} : ∀ (ds' : List Dc) (fs' : List Int) (i : Nat) (s : St), ds.drop i = ds' → fs.drop i = fs' → RB ds fs b s.1 → here ∈ keys s.1 →
    RB ds fs b (turn here i ds' fs' s).1 ∧ Ext s (turn here i ds' fs' s) ∧ ∀ j d f, i ≤ j → ds[j]? = some d → fs[j]? = some f → (d.1 = here → f < d.2.2 → d.2.1 ∈ keys (turn here i ds' fs' s).1) ∧ (d.2.1 = here → 0 < f → d.1 ∈ keys (turn here i ds' fs' s).1)
  | [], fs', i, s, e1, e2, h, hh => by
    have : turn here i [] fs' s = s := by cases fs' <;> rfl
    rw [this]
    refine ⟨h, Ext.refl s, fun j d f hj h1 _ => ?_⟩
    have := (List.getElem?_eq_some_iff.mp h1).1
    have l := congrArg List.length e1
    simp at l; omega
  | d :: ds', [], i, s, e1, e2, h, hh => by
    refine ⟨h, Ext.refl s, fun j d f hj _ h1 => ?_⟩
    have := (List.getElem?_eq_some_iff.mp h1).1
    have l := congrArg List.length e2
    simp at l; omega
  | d :: ds', f :: fs', i, s, e1, e2, h, hh => by
    have d1 : ds[i]? = some d := by rw [← List.head?_drop, e1]; rfl
    have f1 : fs[i]? = some f := by rw [← List.head?_drop, e2]; rfl
    obtain ⟨a1, a2, a3⟩ := edgeA_ok h hh d1 f1
    obtain ⟨b1, b2, b3⟩ := edgeB_ok a1 (a2.key hh) d1 f1
    obtain ⟨c1, c2, c3⟩ := turn_ok (here := here) ds' fs' (i + 1) _ (by rw [← List.tail_drop, e1]; rfl) (by rw [← List.tail_drop, e2]; rfl) b1 (b2.key (a2.key hh))
    refine ⟨c1, (a2.trans b2).trans c2, fun j d' f' hj g1 g2 => ?_⟩
    by_cases hji : j = i
    · subst hji
      rw [d1] at g1; rw [f1] at g2
      cases g1; cases g2
      exact ⟨fun x y => c2.key (b2.key (a3 x y)), fun x y => c2.key (b3 x y)⟩
    · exact c3 j d' f' (by omega) g1 g2
def Cl (ds : List Dc) (fs : List Int) (s : St) : Prop := ∀ a ∈ keys s.1, a ∉ s.2 → ∀ k i m, Edge ds fs a k i m → k ∈ keys s.1
structure Bf (ds : List Dc) (fs : List Int) (b : Int) (s : St) : Prop where
  rb : RB ds fs b s.1
  qk : ∀ q ∈ s.2, q ∈ keys s.1
  cl : Cl ds fs s
theorem turn_bf {B : List (Int × Pv)} {h : Int} {Q : List Int} (I : Bf ds fs b (B, h :: Q)) : Bf ds fs b (turn h 0 ds fs (B, Q)) ∧ Ext (B, Q) (turn h 0 ds fs (B, Q)) := by
  have hh : h ∈ keys B := I.qk h List.mem_cons_self
  obtain ⟨t1, t2, t3⟩ := turn_ok (ds := ds) (fs := fs) (b := b) (here := h) ds fs 0 (B, Q) rfl rfl I.rb hh
  refine ⟨⟨t1, fun q hq => ?_, fun a ha hna k i m he => ?_⟩, t2⟩
  · obtain ⟨n, n1, n2⟩ := t2
    rw [n2] at hq
    rw [n1, keys, List.map_append]
    rcases List.mem_append.mp hq with hq | hq
    · exact List.mem_append_left _ (I.qk q (List.mem_cons_of_mem _ hq))
    · exact List.mem_append_right _ hq
  · obtain ⟨n, n1, n2⟩ := id t2
    have ha' : a ∈ keys B := by
      rw [n1, keys, List.map_append] at ha
      rcases List.mem_append.mp ha with ha | ha
      · exact ha
      · exact absurd (by rw [n2]; exact List.mem_append_right _ ha) hna
    by_cases hah : a = h
    · subst hah
      obtain ⟨d, f, d1, f1, m0, q | q⟩ := he
      · obtain ⟨q1, q2, q3⟩ := q
        have := (t3 i d f (Nat.zero_le _) d1 f1).1 q1 (by omega)
        rw [q2] at this; exact this
      · obtain ⟨q1, q2, q3⟩ := q
        have := (t3 i d f (Nat.zero_le _) d1 f1).2 q1 (by omega)
        rw [q2] at this; exact this
    · refine t2.key (I.cl a ha' (fun hm => ?_) k i m he)
      rcases List.mem_cons.mp hm with e | hm
      · exact hah e
      · exact hna (by rw [n2]; exact List.mem_append_left _ hm)
theorem bfs_ok (hd : okDs ds) (hb : 0 ≤ b ∧ b ≤ 9) : ∀ (n : Nat) (s : St), Bf ds fs b s → 10 + s.2.length ≤ n + s.1.length → Bf ds fs b (bfs ds fs n s) ∧ (bfs ds fs n s).2 = []
  | 0, (B, Q), I, h => by
    have := I.rb.len hd hb
    simp only at h this
    have hq : Q.length = 0 := by omega
    exact ⟨I, List.length_eq_zero_iff.mp hq⟩
  | n + 1, (B, []), I, h => ⟨I, rfl⟩
  | n + 1, (B, q :: Q), I, h => by
    obtain ⟨t1, m, m1, m2⟩ := turn_bf I
    exact bfs_ok hd hb n _ t1 (by rw [m1, m2]; simp at h ⊢; omega)
theorem bf0 : Bf ds fs b ([(b, none)], [b]) := ⟨.base, fun q hq => by simpa using hq, fun a ha hn => absurd (by simpa using ha) hn⟩
/-- what is reached, and nothing more can be -/
structure Rch (ds : List Dc) (fs : List Int) (b : Int) (B : List (Int × Pv)) : Prop where
  rb : RB ds fs b B
  cl : ∀ a ∈ keys B, ∀ k i m, Edge ds fs a k i m → k ∈ keys B
def reach (ds : List Dc) (fs : List Int) (b : Int) : List (Int × Pv) := (bfs ds fs 10 ([(b, none)], [b])).1
theorem reach_ok (hd : okDs ds) (hb : 0 ≤ b ∧ b ≤ 9) : Rch ds fs b (reach ds fs b) := by
  obtain ⟨h1, h2⟩ := bfs_ok (fs := fs) hd hb 10 ([(b, none)], [b]) bf0 (by simp)
  exact ⟨h1.rb, fun a ha k i m he => h1.cl a ha (by rw [h2]; simp) k i m he⟩
/-! ### the flows in the end -/
structure Fl (ds : List Dc) (fs : List Int) (b e : Int) : Prop where
  ok : okF ds fs
  ex : ∀ v, v ≠ b → v ≠ e → exc ds fs v = 0
theorem fl_end {e : Int} (hd : okDs ds) (hb : 0 ≤ b ∧ b ≤ 9) (he : 0 ≤ e ∧ e ≤ 9) (hbe : b ≠ e) (F : Fl ds fs b e) : exc ds fs e = - exc ds fs b := by
  have h2 := net_sum exG ds fs rng10
  have h3 : net (fun d => (rng10.map fun v => exG v d).sum) ds fs = net (fun _ => 0) ds fs := net_congr ds fs fun d hd' => by
    obtain ⟨a1, a2, a3, a4, _⟩ := hd d hd'
    unfold exG
    have s1 := ind_sum (fun _ => true) d.2.1 rng10 rng10_nodup
    have s2 := ind_sum (fun _ => true) d.1 rng10 rng10_nodup
    rw [List.filter_eq_self.mpr fun _ _ => rfl, decide_eq_true (rng10_mem.mpr ⟨a3, a4⟩)] at s1
    rw [List.filter_eq_self.mpr fun _ _ => rfl, decide_eq_true (rng10_mem.mpr ⟨a1, a2⟩)] at s2
    rw [map_sub_sum, s1, s2]
    simp
  rw [net_zero] at h3
  have h4 : (rng10.map fun v => exc ds fs v).sum = 0 := h2.trans h3
  -- two terms are left
  have two : ∀ {f : Int → Int} {L : List Int}, L.Nodup → b ∈ L → e ∈ L → (∀ v ∈ L, v ≠ b → v ≠ e → f v = 0) → (L.map f).sum = f b + f e := fun {f L} hn h1 h2 h => by
    have := sum_one (f := fun v => f v - f e * ind (decide (e = v))) (b := b) hn h1 fun v hv hne => by
      by_cases hve : e = v
      · subst hve; simp [ind]
      · rw [h v hv hne fun z => hve z.symm]; simp [ind, hve]
    rw [map_sub_sum] at this
    have s := ind_sum (fun _ => true) e L hn
    rw [List.filter_eq_self.mpr fun _ _ => rfl, decide_eq_true h2] at s
    have mul : ∀ (c : Int) (g : Int → Int) (L : List Int), (L.map fun v => c * g v).sum = c * (L.map g).sum := fun c g L => by
      induction L with
      | nil => simp
      | cons a L ih => simp only [List.map_cons, List.sum_cons, ih, Int.mul_add]
    rw [mul, s] at this
    have hbe' : ¬ e = b := fun z => hbe z.symm
    simp [ind, hbe'] at this
    omega
  have := two (f := fun v => exc ds fs v) rng10_nodup (rng10_mem.mpr hb) (rng10_mem.mpr he) fun v _ h1 h2 => F.ex v h1 h2
  omega
theorem fl_zero (hd : okDs ds) {e : Int} : Fl ds (ds.map fun _ => 0) b e := by
  refine ⟨?_, fun v _ _ => ?_⟩
  · induction ds with
    | nil => trivial
    | cons d ds ih =>
      have := hd d List.mem_cons_self
      exact ⟨⟨Int.le_refl _, this.2.2.2.2.2.1⟩, ih fun x hx => hd x (List.mem_cons_of_mem _ hx)⟩
  · unfold exc
    clear hd
    induction ds with
    | nil => rfl
    | cons d ds ih => simp only [List.map_cons, net, ih]; simp
theorem fl_val (hd : okDs ds) (F : okF ds fs) : - exc ds fs b ≤ 100 * ds.length := by
  unfold exc
  induction ds generalizing fs with
  | nil => cases fs <;> simp [net]
  | cons d ds ih =>
    cases fs with
    | nil => exact F.elim
    | cons f fs =>
      have := ih (fs := fs) (fun x hx => hd x (List.mem_cons_of_mem _ hx)) F.2
      have h := hd d List.mem_cons_self
      have h2 := F.1
      simp only [net, List.length_cons]
      have : - (f * exG b d) ≤ 100 := by
        unfold exG ind
        by_cases c1 : d.2.1 = b <;> by_cases c2 : d.1 = b <;> simp [c1, c2] <;> omega
      push_cast
      omega
theorem fl_val0 : exc ds (ds.map fun _ => 0) b = 0 := by
  unfold exc
  induction ds with
  | nil => rfl
  | cons d ds ih => simp only [List.map_cons, net, ih]; simp
/-- the least of what more can be along a way -/
def least (l : List (Int × Int × Nat × Int)) : Int := (l.map (·.2.2.2)).min?.getD 0
theorem least_ok {l : List (Int × Int × Nat × Int)} (hl : l ≠ []) (hp : ∀ s ∈ l, 0 < s.2.2.2) : (l.map (·.2.2.2)).min? = some (least l) ∧ 0 < least l ∧ ∀ s ∈ l, least l ≤ s.2.2.2 := by
  cases e : (l.map (·.2.2.2)).min? with
  | none => rw [List.min?_eq_none_iff, List.map_eq_nil_iff] at e; exact absurd e hl
  | some m =>
    have em : least l = m := by unfold least; rw [e]; rfl
    obtain ⟨m1, m2⟩ := List.min?_eq_some_iff.mp e
    rw [em]
    obtain ⟨s, hs, rfl⟩ := List.mem_map.mp m1
    exact ⟨rfl, hp s hs, fun t ht => m2 _ (List.mem_map.mpr ⟨t, ht, rfl⟩)⟩
/-- one turn of more -/
theorem fl_more {e : Int} {B : List (Int × Pv)} {l : List (Int × Int × Nat × Int)} (hd : okDs ds) (F : Fl ds fs b e) (w : Way ds fs B b e l) (hbe : b ≠ e) :
    l ≠ [] ∧ (l.map (·.2.2.2)).min? = some (least l) ∧ Fl ds (applyW ds (least l) l fs) b e ∧ exc ds (applyW ds (least l) l fs) b < exc ds fs b := by
  have hl : l ≠ [] := fun z => by
    subst z
    have := w.w
    generalize hk : e = k at this
    cases this
    exact hbe hk.symm
  obtain ⟨l1, l2, l3⟩ := least_ok hl fun s hs => by obtain ⟨_, _, _, _, h, _⟩ := w.ed s hs; exact h
  have ex := apply_exc (more := least l) hd w.w fs (okF_len F.ok) w.ed
  refine ⟨hl, l1, ⟨apply_ok l fs fs (way_idx hd w) F.ok (fun _ _ => rfl) (fun s hs => ⟨w.ed s hs, l3 s hs⟩) (by omega) hd, fun v h1 h2 => ?_⟩, ?_⟩
  · rw [ex, F.ex v h1 h2]
    have a1 : ¬ e = v := fun z => h2 z.symm
    have a2 : ¬ b = v := fun z => h1 z.symm
    simp [ind, a1, a2]
  · rw [ex]
    have a1 : ¬ e = b := fun z => hbe z.symm
    simp [ind, a1]
    omega
/-- in the end what is reached lets just so much through, and it is the least of all such -/
theorem fl_cut {e : Int} {B : List (Int × Pv)} (hd : okDs ds) (hb : 0 ≤ b ∧ b ≤ 9) (F : Fl ds fs b e) (R : Rch ds fs b B) (he : e ∉ keys B) :
    - exc ds fs b = through (fun k => decide (k ∈ keys B)) ds ∧ ∀ S : Int → Bool, S b = true → S e = false → - exc ds fs b ≤ through S ds ∧ (- exc ds fs b = through S ds → ∀ k ∈ keys B, S k = true) := by
  refine ⟨cut_eq hd F.ok hb (decide_eq_true R.rb.begin) (decide_eq_false he) F.ex fun i d f d1 f1 => ⟨fun s1 s2 => ?_, fun s1 s2 => ?_⟩, fun S sb se => ?_⟩
  · have h := okF_at F.ok d1 f1
    have s1 := of_decide_eq_true s1
    have s2 := of_decide_eq_false s2
    by_cases hlt : f < d.2.2
    · exact absurd (R.cl _ s1 d.2.1 i (d.2.2 - f) ⟨d, f, d1, f1, by omega, .inl ⟨rfl, rfl, rfl⟩⟩) s2
    · omega
  · have h := okF_at F.ok d1 f1
    have s1 := of_decide_eq_true s1
    have s2 := of_decide_eq_false s2
    by_cases hlt : 0 < f
    · exact absurd (R.cl _ s1 d.1 i f ⟨d, f, d1, f1, by omega, .inr ⟨rfl, rfl, rfl⟩⟩) s2
    · omega
  · obtain ⟨c1, c2⟩ := cut_ge hd F.ok hb sb se F.ex
    refine ⟨c1, fun q => R.rb.sub (S := fun k => S k = true) sb fun p k i m hp hE => ?_⟩
    obtain ⟨d, f, d1, f1, m0, h | h⟩ := hE
    · obtain ⟨h1, h2, h3⟩ := h
      cases hk : S k with
      | true => rfl
      | false =>
        have := (c2 q i d f d1 f1).1 (by rw [h1]; exact hp) (by rw [h2]; exact hk)
        omega
    · obtain ⟨h1, h2, h3⟩ := h
      cases hk : S k with
      | true => rfl
      | false =>
        have := (c2 q i d f d1 f1).2 (by rw [h1]; exact hp) (by rw [h2]; exact hk)
        omega
end
end K16
set_option Elab.async false
set_option linter.all false
set_option maxRecDepth 5000
set_option maxHeartbeats 1000000
namespace K16
open PySem PySem.Spec PyProof.Rows L2 VL
abbrev dcD (d : Dc) : D := .tup [.int d.1, .int d.2.1, .int d.2.2]
def pvD : Pv → D
  | none => .non
  | some (p, i, m) => .tup [.int p, .int i, .int m]
abbrev dB (B : List (Int × Pv)) : List (D × D) := dmap .int pvD B
abbrev vI (i : Int) : Option Vl := some (.d (.int i))
/-- the two objects of reach -/
abbrev Wr (W : List O) (s : St) : List O := W ++ [.dic false (dB s.1), .lst (s.2.map .int)]
theorem wr0 {W : List O} {s : St} : (Wr W s)[W.length]? = some (.dic false (dB s.1)) := by simp [Wr]
theorem wr1 {W : List O} {s : St} : (Wr W s)[W.length + 1]? = some (.lst (s.2.map .int)) := by simp [Wr]
theorem wr_set0 {W : List O} {s : St} {B : List (Int × Pv)} : (Wr W s).set W.length (.dic false (dB B)) = Wr W (B, s.2) := by simp [Wr]
theorem wr_set1 {W : List O} {s : St} {Q : List Int} : (Wr W s).set (W.length + 1) (.lst (Q.map .int)) = Wr W (s.1, Q) := by simp [Wr]
def eA : SemS := (sIf (tAndD (tOf (eBin eqS (eVar 7) (eVar 5))) (tAndD (tOf (eBin (inS true) (eVar 8) (eVar 3))) (tOf (eBin ltS (eBin idxS (eVar 1) (eVar 6)) (eVar 9)))))
  (sSeq (sSub (eDisp mkTup (aCons (eVar 7) (aCons (eVar 6) (aCons (eBin subS (eVar 9) (eBin idxS (eVar 1) (eVar 6))) aNil)))) (eVar 3) (eVar 8))
  (sExpr (eMeth isL mAppend (eVar 4) (aCons (eVar 8) aNil))))
  sNx)
def eB : SemS := (sIf (tAndD (tOf (eBin eqS (eVar 8) (eVar 5))) (tAndD (tOf (eBin (inS true) (eVar 7) (eVar 3))) (tOf (eBin gtS (eBin idxS (eVar 1) (eVar 6)) (eC (.int 0))))))
  (sSeq (sSub (eDisp mkTup (aCons (eVar 8) (aCons (eVar 6) (aCons (eBin idxS (eVar 1) (eVar 6)) aNil)))) (eVar 3) (eVar 7))
  (sExpr (eMeth isL mAppend (eVar 4) (aCons (eVar 7) aNil))))
  sNx)
section
variable {W : List O} {x : D} {fv : Vl} {b here : Int} {ds : List Dc} {fs : List Int}
/-- flows, as data or as an object that stands before -/
def FlV (W : List O) (fv : Vl) (fs : List Int) : Prop := ∀ E, cont (W ++ E) fv = some (.lst (fs.map .int))
abbrev R10 (x : D) (fv : Vl) (b : Int) (n : Nat) (a5 a6 a7 a8 a9 : Option Vl) : Rho := [some (.d x), some fv, vI b, some (.o n), some (.o (n + 1)), a5, a6, a7, a8, a9]
theorem notin_B {k : Int} {B : List (Int × Pv)} : inS true (.int k) (.dic false (dB B)) = some (.bl (decide (k ∉ keys B))) := by
  rw [in_m keyI, lookup_mem]
  simp
theorem fl_at {i : Nat} {f : Int} (hF : FlV W fv fs) (hf : fs[i]? = some f) {n : Nat} {s : St} {a5 a7 a8 a9 : Option Vl} : eBin idxS (eVar 1) (eVar 6) (R10 x fv b n a5 (vI i) a7 a8 a9) (Wr W s) = .ok (.d (.int f)) (Wr W s) :=
  eBin_c rfl rfl (hF _) rfl (atI_mapn .int fs hf)
theorem eA_ok (hF : FlV W fv fs) {i : Nat} {d : Dc} {f : Int} (hf : fs[i]? = some f) {s : St} (hl : s.1.length ≤ 1000) (hq : s.2.length ≤ 1000) : eA (R10 x fv b W.length (vI here) (vI i) (vI d.1) (vI d.2.1) (vI d.2.2)) (Wr W s) = .ok .nx (R10 x fv b W.length (vI here) (vI i) (vI d.1) (vI d.2.1) (vI d.2.2)) (Wr W (edgeA here i d f s)) := by
  have t1 : tOf (eBin eqS (eVar 7) (eVar 5)) (R10 x fv b W.length (vI here) (vI i) (vI d.1) (vI d.2.1) (vI d.2.2)) (Wr W s) = .ok (decide (d.1 = here)) (Wr W s) := tOf_ok (eBin_ok rfl rfl (eqS_int _ _))
  have t2 : tOf (eBin (inS true) (eVar 8) (eVar 3)) (R10 x fv b W.length (vI here) (vI i) (vI d.1) (vI d.2.1) (vI d.2.2)) (Wr W s) = .ok (decide (d.2.1 ∉ keys s.1)) (Wr W s) := tOf_ok (eBin_c rfl rfl rfl (cont_dic wr0) notin_B)
  have t3 : tOf (eBin ltS (eBin idxS (eVar 1) (eVar 6)) (eVar 9)) (R10 x fv b W.length (vI here) (vI i) (vI d.1) (vI d.2.1) (vI d.2.2)) (Wr W s) = .ok (decide (f < d.2.2)) (Wr W s) := tOf_ok (eBin_ok (fl_at hF hf) rfl (ltS_int _ _))
  unfold edgeA
  by_cases c1 : d.1 = here
  · rw [decide_eq_true c1] at t1
    by_cases c2 : d.2.1 ∉ keys s.1
    · rw [decide_eq_true c2] at t2
      by_cases c3 : f < d.2.2
      · rw [decide_eq_true c3] at t3
        rw [if_pos ⟨c1, c2, c3⟩]
        refine sIf_t (tAnd_t t1 (tAnd_t t2 t3)) (sSeq_ok (W1 := Wr W (s.1 ++ [(d.2.1, some (d.1, i, d.2.2 - f))], s.2)) (sSub_ok (eDisp_ok (aCons_ok rfl (a2_ok rfl (eBin_ok rfl (fl_at hF hf) (subS_int _ _)))) rfl (mkTup_s (by simp))) rfl rfl ?_) ?_)
        · have hp := dput_m (F := pvD) keyI d.2.1 (some (d.1, i, d.2.2 - f)) s.1
          rw [putB_new c2] at hp
          exact (setW_dic wr0 (by rw [dmap_len]; omega) hp).trans (congrArg some wr_set0)
        · rw [sExpr_ok (VL.app_ok (W1 := Wr W (s.1 ++ [(d.2.1, some (d.1, i, d.2.2 - f))], s.2)) (j := W.length + 1) rfl rfl ⟨_, wr1⟩ wr1 (by rw [List.length_map]; simp only; omega)), show (s.2.map D.int ++ [D.int d.2.1]) = (s.2 ++ [d.2.1]).map .int by simp, wr_set1]
      · rw [decide_eq_false c3] at t3
        rw [if_neg fun z => c3 z.2.2]
        exact sIf_n (tAnd_t t1 (tAnd_t t2 t3))
    · rw [decide_eq_false c2] at t2
      rw [if_neg fun z => c2 z.2.1]
      exact sIf_n (tAnd_t t1 (tAnd_f t2))
  · rw [decide_eq_false c1] at t1
    rw [if_neg fun z => c1 z.1]
    exact sIf_n (tAnd_f t1)
theorem eB_ok (hF : FlV W fv fs) {i : Nat} {d : Dc} {f : Int} (hf : fs[i]? = some f) {s : St} (hl : s.1.length ≤ 1000) (hq : s.2.length ≤ 1000) : eB (R10 x fv b W.length (vI here) (vI i) (vI d.1) (vI d.2.1) (vI d.2.2)) (Wr W s) = .ok .nx (R10 x fv b W.length (vI here) (vI i) (vI d.1) (vI d.2.1) (vI d.2.2)) (Wr W (edgeB here i d f s)) := by
  have t1 : tOf (eBin eqS (eVar 8) (eVar 5)) (R10 x fv b W.length (vI here) (vI i) (vI d.1) (vI d.2.1) (vI d.2.2)) (Wr W s) = .ok (decide (d.2.1 = here)) (Wr W s) := tOf_ok (eBin_ok rfl rfl (eqS_int _ _))
  have t2 : tOf (eBin (inS true) (eVar 7) (eVar 3)) (R10 x fv b W.length (vI here) (vI i) (vI d.1) (vI d.2.1) (vI d.2.2)) (Wr W s) = .ok (decide (d.1 ∉ keys s.1)) (Wr W s) := tOf_ok (eBin_c rfl rfl rfl (cont_dic wr0) notin_B)
  have t3 : tOf (eBin gtS (eBin idxS (eVar 1) (eVar 6)) (eC (.int 0))) (R10 x fv b W.length (vI here) (vI i) (vI d.1) (vI d.2.1) (vI d.2.2)) (Wr W s) = .ok (decide (0 < f)) (Wr W s) := tOf_ok (eBin_ok (fl_at hF hf) rfl (gtS_int _ _))
  unfold edgeB
  by_cases c1 : d.2.1 = here
  · rw [decide_eq_true c1] at t1
    by_cases c2 : d.1 ∉ keys s.1
    · rw [decide_eq_true c2] at t2
      by_cases c3 : 0 < f
      · rw [decide_eq_true c3] at t3
        rw [if_pos ⟨c1, c2, c3⟩]
        refine sIf_t (tAnd_t t1 (tAnd_t t2 t3)) (sSeq_ok (W1 := Wr W (s.1 ++ [(d.1, some (d.2.1, i, f))], s.2)) (sSub_ok (eDisp_ok (aCons_ok rfl (a2_ok rfl (fl_at hF hf))) rfl (mkTup_s (by simp))) rfl rfl ?_) ?_)
        · have hp := dput_m (F := pvD) keyI d.1 (some (d.2.1, i, f)) s.1
          rw [putB_new c2] at hp
          exact (setW_dic wr0 (by rw [dmap_len]; omega) hp).trans (congrArg some wr_set0)
        · rw [sExpr_ok (VL.app_ok (W1 := Wr W (s.1 ++ [(d.1, some (d.2.1, i, f))], s.2)) (j := W.length + 1) rfl rfl ⟨_, wr1⟩ wr1 (by rw [List.length_map]; simp only; omega)), show (s.2.map D.int ++ [D.int d.1]) = (s.2 ++ [d.1]).map .int by simp, wr_set1]
      · rw [decide_eq_false c3] at t3
        rw [if_neg fun z => c3 z.2.2]
        exact sIf_n (tAnd_t t1 (tAnd_t t2 t3))
    · rw [decide_eq_false c2] at t2
      rw [if_neg fun z => c2 z.2.1]
      exact sIf_n (tAnd_t t1 (tAnd_f t2))
  · rw [decide_eq_false c1] at t1
    rw [if_neg fun z => c1 z.1]
    exact sIf_n (tAnd_f t1)
/-- states that are small -/
theorem bf_small {s : St} (hd : okDs ds) (hb : 0 ≤ b ∧ b ≤ 9) (h : RB ds fs b s.1) {n : Nat} (hq : s.2.length ≤ s.1.length + n) : s.1.length ≤ 10 ∧ s.2.length ≤ 10 + n := by
  have := h.len hd hb
  omega
theorem turn_loop (hF : FlV W fv fs) (hd : okDs ds) (hb : 0 ≤ b ∧ b ≤ 9) : ∀ (ds' : List Dc) (fs' : List Int) (i : Nat) (s : St) (a6 a7 a8 a9 : Option Vl), ds.drop i = ds' → fs.drop i = fs' → fs.length = ds.length → RB ds fs b s.1 → here ∈ keys s.1 → s.2.length ≤ s.1.length →
    ∃ a6' a7' a8' a9', forL (.tp [(.nm 6), (.tp [(.nm 7), (.nm 8), (.nm 9)])]) (sSeq eA eB) (enumC i (ds'.map dcD)) (R10 x fv b W.length (vI here) a6 a7 a8 a9) (Wr W s) = .ok .nx (R10 x fv b W.length (vI here) a6' a7' a8' a9') (Wr W (turn here i ds' fs' s))
  | [], fs', i, s, a6, a7, a8, a9, _, _, _, _, _, _ => ⟨a6, a7, a8, a9, by rw [show turn here i [] fs' s = s by cases fs' <;> rfl]; rfl⟩
  | d :: ds', [], i, s, a6, a7, a8, a9, e1, e2, hl, _, _, _ => by
    have l1 := congrArg List.length e1
    have l2 := congrArg List.length e2
    simp at l1 l2; omega
  | d :: ds', f :: fs', i, s, a6, a7, a8, a9, e1, e2, hl, h, hh, hq => by
    have d1 : ds[i]? = some d := by rw [← List.head?_drop, e1]; rfl
    have f1 : fs[i]? = some f := by rw [← List.head?_drop, e2]; rfl
    obtain ⟨A1, A2, _⟩ := edgeA_ok h hh d1 f1
    obtain ⟨B1, B2, _⟩ := edgeB_ok A1 (A2.key hh) d1 f1
    have ext : ∀ {s s' : St}, Ext s s' → s.2.length ≤ s.1.length → s'.2.length ≤ s'.1.length := fun {s s'} ⟨n, n1, n2⟩ z => by rw [n1, n2]; simp; omega
    have hqA := ext A2 hq
    have hqB := ext B2 hqA
    obtain ⟨s1, s2⟩ := bf_small (n := 0) hd hb h hq
    obtain ⟨s3, s4⟩ := bf_small (n := 0) hd hb A1 hqA
    obtain ⟨a6', a7', a8', a9', e⟩ := turn_loop hF hd hb ds' fs' (i + 1) _ (vI i) (vI d.1) (vI d.2.1) (vI d.2.2) (by rw [← List.tail_drop, e1]; rfl) (by rw [← List.tail_drop, e2]; rfl) hl B1 (B2.key (A2.key hh)) hqB
    refine ⟨a6', a7', a8', a9', ?_⟩
    rw [List.map_cons, enumC_cons, forL_cons (ρ' := R10 x fv b W.length (vI here) (vI i) (vI d.1) (vI d.2.1) (vI d.2.2)) rfl, sSeq_ok (eA_ok hF f1 (by omega) (by omega)) (eB_ok hF f1 (by omega) (by omega)), sbind_ok]
    exact e
def rB : SemS := (sSeq (sSet 5 (eMeth isL mPop (eVar 4) (aCons (eC (.int 0)) aNil)))
  (sFor (.tp [(.nm 6), (.tp [(.nm 7), (.nm 8), (.nm 9)])]) (iEnum (aCons (eVar 0) aNil)) (sSeq eA eB)))
theorem reach_loop (hx : x = .lst (ds.map dcD) ∨ x = .tup (ds.map dcD)) (hF : FlV W fv fs) (hd : okDs ds) (hb : 0 ≤ b ∧ b ≤ 9) (hlf : fs.length = ds.length) : ∀ (n m : Nat) (s : St) (a5 a6 a7 a8 a9 : Option Vl), Bf ds fs b s → 10 + s.2.length ≤ n + s.1.length → s.2.length ≤ s.1.length → n < m →
    ∃ a5' a6' a7' a8' a9', whileF (tTru1 (eVar 4)) rB m (R10 x fv b W.length a5 a6 a7 a8 a9) (Wr W s) = .ok .nx (R10 x fv b W.length a5' a6' a7' a8' a9') (Wr W (bfs ds fs n s))
  | n, 0, s, a5, a6, a7, a8, a9, I, h, hq, hm => absurd hm (Nat.not_lt_zero _)
  | 0, m + 1, (B, Q), a5, a6, a7, a8, a9, I, h, hq, hm => by
    have := I.rb.len hd hb
    simp only at h this
    have hQ : Q = [] := List.length_eq_zero_iff.mp (by omega)
    subst hQ
    exact ⟨a5, a6, a7, a8, a9, whileF_f (tTru1_c rfl (cont_o wr1) rfl)⟩
  | n + 1, m + 1, (B, []), a5, a6, a7, a8, a9, I, h, hq, hm => ⟨a5, a6, a7, a8, a9, whileF_f (tTru1_c rfl (cont_o wr1) rfl)⟩
  | n + 1, m + 1, (B, q :: Q), a5, a6, a7, a8, a9, I, h, hq, hm => by
    have hh : q ∈ keys B := I.qk q List.mem_cons_self
    simp only [List.length_cons] at h hq
    obtain ⟨a6', a7', a8', a9', e⟩ := turn_loop (x := x) (here := q) hF hd hb ds fs 0 (B, Q) a6 a7 a8 a9 rfl rfl hlf I.rb hh (by simp only; omega)
    obtain ⟨t1, k, m1, m2⟩ := turn_bf I
    obtain ⟨c5, c6, c7, c8, c9, e2⟩ := reach_loop hx hF hd hb hlf n m _ (vI q) a6' a7' a8' a9' t1 (by rw [m1, m2]; simp; omega) (by rw [m1, m2]; simp; omega) (by omega)
    refine ⟨c5, c6, c7, c8, c9, ?_⟩
    rw [whileF_t (ρ1 := R10 x fv b W.length (vI q) a6' a7' a8' a9') (W1 := Wr W (B, q :: Q)) (W2 := Wr W (turn q 0 ds fs (B, Q))) (tTru1_c rfl (cont_o wr1) rfl) ?_]
    · exact e2
    · refine sSeq_ok (W1 := Wr W (B, Q)) (ρ1 := R10 x fv b W.length (vI q) a6 a7 a8 a9) ?_ (sFor_ok (ds := enumC 0 (ds.map dcD)) (W1 := Wr W (B, Q)) ?_ e)
      · have := pop0_ok (fo := eVar 4) (fe := eC (.int 0)) (ρ := R10 x fv b W.length a5 a6 a7 a8 a9) (W := Wr W (B, q :: Q)) (j := W.length + 1) (x := .int q) (ds := Q.map .int) rfl rfl wr1
        rw [wr_set1] at this
        exact sSet_ok this
      · rw [iEnum_s, a1_ok rfl, bind_ok]
        rcases hx with rfl | rfl <;> rfl
theorem reach_eq (hx : x = .lst (ds.map dcD) ∨ x = .tup (ds.map dcD)) (hF : FlV W fv fs) (hd : okDs ds) (hb : 0 ≤ b ∧ b ≤ 9) (hlf : fs.length = ds.length) : G_reach [.d x, fv, .d (.int b)] W = .ok (.d (.dic false (dB (reach ds fs b)))) W := by
  obtain ⟨a5, a6, a7, a8, a9, e⟩ := reach_loop (x := x) hx hF hd hb hlf 10 1000 ([(b, none)], [b]) none none none none none bf0 (by simp) (by simp) (by omega)
  obtain ⟨h1, h2⟩ := bfs_ok (fs := fs) hd hb 10 ([(b, none)], [b]) bf0 (by simp)
  have e : sWhile 1000 (tTru1 (eVar 4)) rB (R10 x fv b W.length none none none none none) (Wr W ([(b, none)], [b])) = _ := e
  unfold G_reach runF
  have : F_reach ([Vl.d x, fv, Vl.d (.int b)].map some ++ List.replicate (10 - [Vl.d x, fv, Vl.d (.int b)].length) none) W = .ok (.rt (.o W.length)) (R10 x fv b W.length a5 a6 a7 a8 a9) (Wr W (bfs ds fs 10 ([(b, none)], [b]))) := by
    refine sSeq_ok (ρ1 := [some (.d x), some fv, vI b, some (.o W.length), none, none, none, none, none, none]) (W1 := W ++ [.dic false (dB [(b, none)])]) rfl (sSeq_ok (ρ1 := R10 x fv b W.length none none none none none) (W1 := Wr W ([(b, none)], [b])) ?_ (sSeq_ok e (sRet_ok rfl)))
    have := newL1_ok (f := eVar 2) (ρ := [some (.d x), some fv, vI b, some (.o W.length), none, none, none, none, none, none]) (W := W ++ [.dic false (dB [(b, none)])]) (W1 := W ++ [.dic false (dB [(b, none)])]) (x := .int b) rfl
    rw [List.length_append, List.append_assoc] at this
    exact sSet_ok this
  rw [this]
  simp [finF, frzO, Wr, reach]
end
end K16
set_option Elab.async false
set_option linter.all false
set_option maxRecDepth 5000
set_option maxHeartbeats 1000000
namespace K16
open PySem PySem.Spec PyProof.Rows L2 VL
abbrev Sp := Int × Int × Nat × Int
abbrev stD (s : Sp) : D := .tup [.int s.1, .tup [.int s.2.1, .int s.2.2.1, .int s.2.2.2]]
abbrev Wf (W : List O) (fs : List Int) (E : List O) : List O := W ++ (.lst (fs.map .int) :: E)
abbrev R12 (x : D) (b e : Int) (n : Nat) (a4 a5 a6 a7 a8 a9 a10 a11 : Option Vl) : Rho := [some (.d x), vI b, vI e, some (.o n), a4, a5, a6, a7, a8, a9, a10, a11]
abbrev vB (B : List (Int × Pv)) : Option Vl := some (.d (.dic false (dB B)))
section
variable {W E : List O} {x : D} {b e : Int} {ds : List Dc} {fs : List Int} {n : Nat}
theorem wf0 : (Wf W fs E)[W.length]? = some (.lst (fs.map .int)) := by simp [Wf]
theorem wf_set {gs : List Int} : (Wf W fs E).set W.length (.lst (gs.map .int)) = Wf W gs E := by simp [Wf]
theorem flV_f : FlV (Wf W fs E) (.o W.length) fs := fun E' => cont_o (by simp [Wf])
theorem okDs_x (hx : x = .lst (ds.map dcD) ∨ x = .tup (ds.map dcD)) {i : Nat} {d : Dc} (h : ds[i]? = some d) : idxS x (.int i) = some (dcD d) := by
  rcases hx with rfl | rfl <;> exact atI_mapn dcD ds h
/-! the way back -/
def wT : VL.Sem Bool := (tOf (eBin (isS true) (eBin idxS (eVar 4) (eVar 6)) (eC .non)))
def wB : SemS := (sSeq (sExpr (eMeth isL mAppend (eVar 5) (aCons (eDisp mkTup (aCons (eVar 6) (aCons (eBin idxS (eVar 4) (eVar 6)) aNil))) aNil)))
  (sSet 6 (eBin idxS (eBin idxS (eVar 4) (eVar 6)) (eC (.int 0)))))
theorem way_loop {V : List O} {B : List (Int × Pv)} {a7 a8 a9 a10 a11 : Option Vl} {k : Int} {l : List Sp} (w : Wk B b k l) : ∀ (m : Nat) (acc : List D), l.length < m → acc.length + l.length ≤ 1000 →
    whileF wT wB m (R12 x b e n (vB B) (some (.o V.length)) (vI k) a7 a8 a9 a10 a11) (V ++ [.lst acc]) = .ok .nx (R12 x b e n (vB B) (some (.o V.length)) (vI b) a7 a8 a9 a10 a11) (V ++ [.lst (acc ++ l.map stD)]) := by
  induction w with
  | nil h =>
    intro m acc hm _
    cases m with
    | zero => exact absurd hm (Nat.not_lt_zero _)
    | succ m =>
      rw [List.map_nil, List.append_nil]
      exact whileF_f (tOf_ok (eBin_ok (eBin_ok rfl rfl (idx_m keyI h)) rfl rfl))
  | @cons k p i m0 l h _ ih =>
    intro m acc hm hc
    cases m with
    | zero => exact absurd hm (Nat.not_lt_zero _)
    | succ m =>
      simp only [List.length_cons] at hm hc
      have e1 := ih m (acc ++ [stD (k, p, i, m0)]) (by omega) (by simp; omega)
      have ht : wT (R12 x b e n (vB B) (some (.o V.length)) (vI k) a7 a8 a9 a10 a11) (V ++ [.lst acc]) = .ok true (V ++ [.lst acc]) := tOf_ok (eBin_ok (eBin_ok rfl rfl (idx_m keyI h)) rfl rfl)
      have hB : wB (R12 x b e n (vB B) (some (.o V.length)) (vI k) a7 a8 a9 a10 a11) (V ++ [.lst acc]) = .ok .nx (R12 x b e n (vB B) (some (.o V.length)) (vI p) a7 a8 a9 a10 a11) (V ++ [.lst (acc ++ [stD (k, p, i, m0)])]) := by
        refine sSeq_ok (W1 := V ++ [.lst (acc ++ [stD (k, p, i, m0)])]) (ρ1 := R12 x b e n (vB B) (some (.o V.length)) (vI k) a7 a8 a9 a10 a11) ?_ (sSet_ok (eBin_ok (eBin_ok rfl rfl (idx_m keyI h)) rfl rfl))
        have := VL.app_ok (fo := eVar 5) (fe := eDisp mkTup (aCons (eVar 6) (aCons (eBin idxS (eVar 4) (eVar 6)) aNil))) (ρ := R12 x b e n (vB B) (some (.o V.length)) (vI k) a7 a8 a9 a10 a11) (W := V ++ [.lst acc]) (j := V.length) (d := stD (k, p, i, m0)) (ds := acc) rfl (eDisp_ok (a2_ok rfl (eBin_ok rfl rfl (idx_m keyI h))) rfl (mkTup_s (by simp))) ⟨_, get_end⟩ get_end (by omega)
        rw [set_lastO] at this
        exact sExpr_ok this
      rw [whileF_t ht hB, e1, List.map_cons, List.append_assoc]
      rfl
/-! more along it -/
def aB : SemS := (sAugS (eVar 3) (eVar 10) iaddS (eIf (tOf (eBin eqS (eBin idxS (eBin idxS (eVar 0) (eVar 10)) (eC (.int 1))) (eVar 8))) (eVar 7) (eUn negS (eVar 7))))
theorem aug_loop (hx : x = .lst (ds.map dcD) ∨ x = .tup (ds.map dcD)) {more : Int} {a4 a5 a6 a11 : Option Vl} : ∀ (l : List Sp) (gs : List Int) (a8 a9 a10 : Option Vl), (∀ s ∈ l, s.2.2.1 < ds.length) → gs.length = ds.length →
    ∃ a8' a9' a10', forL (.tp [(.nm 8), (.tp [(.nm 9), (.nm 10), (.nm 9)])]) aB (l.map stD) (R12 x b e W.length a4 a5 a6 (vI more) a8 a9 a10 a11) (Wf W gs E) = .ok .nx (R12 x b e W.length a4 a5 a6 (vI more) a8' a9' a10' a11) (Wf W (applyW ds more l gs) E)
  | [], gs, a8, a9, a10, _, _ => ⟨a8, a9, a10, rfl⟩
  | s :: l, gs, a8, a9, a10, hs, hl => by
    have hi := hs s List.mem_cons_self
    have hd : ds[s.2.2.1]? = some ds[s.2.2.1] := List.getElem?_eq_getElem hi
    have hg : gs[s.2.2.1]? = some (gs[s.2.2.1]'(by omega)) := List.getElem?_eq_getElem _
    obtain ⟨a8', a9', a10', e1⟩ := aug_loop hx l (gs.set s.2.2.1 (gs.getD s.2.2.1 0 + sgn ds s.2.2.1 s.1 more)) (vI s.1) (vI s.2.2.2) (vI s.2.2.1) (fun t ht => hs t (List.mem_cons_of_mem _ ht)) (by rw [List.length_set]; exact hl)
    refine ⟨a8', a9', a10', ?_⟩
    rw [List.map_cons, forL_cons (ρ' := R12 x b e W.length a4 a5 a6 (vI more) (vI s.1) (vI s.2.2.2) (vI s.2.2.1) a11) rfl]
    have hb : aB (R12 x b e W.length a4 a5 a6 (vI more) (vI s.1) (vI s.2.2.2) (vI s.2.2.1) a11) (Wf W gs E) = .ok .nx (R12 x b e W.length a4 a5 a6 (vI more) (vI s.1) (vI s.2.2.2) (vI s.2.2.1) a11) (Wf W (gs.set s.2.2.1 (gs.getD s.2.2.1 0 + sgn ds s.2.2.1 s.1 more)) E) := by
      have t : tOf (eBin eqS (eBin idxS (eBin idxS (eVar 0) (eVar 10)) (eC (.int 1))) (eVar 8)) (R12 x b e W.length a4 a5 a6 (vI more) (vI s.1) (vI s.2.2.2) (vI s.2.2.1) a11) (Wf W gs E) = .ok (decide (ds[s.2.2.1].2.1 = s.1)) (Wf W gs E) := tOf_ok (eBin_ok (eBin_ok (eBin_ok rfl rfl (okDs_x hx hd)) rfl rfl) rfl (eqS_int _ _))
      have hz : ∀ y : Int, setW (.o W.length) (.d (.int s.2.2.1)) (.d (.int y)) (Wf W gs E) = some (Wf W (gs.set s.2.2.1 y) E) := fun y => by
        rw [setW_lst (ds := gs.map .int) wf0 (by omega) (by rw [List.length_map]; omega), Int.toNat_natCast, ← List.map_set, wf_set]
      have hy : eIf (tOf (eBin eqS (eBin idxS (eBin idxS (eVar 0) (eVar 10)) (eC (.int 1))) (eVar 8))) (eVar 7) (eUn negS (eVar 7)) (R12 x b e W.length a4 a5 a6 (vI more) (vI s.1) (vI s.2.2.2) (vI s.2.2.1) a11) (Wf W gs E) = .ok (.d (.int (sgn ds s.2.2.1 s.1 more))) (Wf W gs E) := by
        unfold sgn
        rw [getD_of hd]
        by_cases c : ds[s.2.2.1].2.1 = s.1
        · rw [decide_eq_true c] at t
          rw [if_pos c]
          exact eIf_t t rfl
        · rw [decide_eq_false c] at t
          rw [if_neg c]
          exact eIf_f t rfl
      rw [getD_of hg]
      exact sAugS_ok (o := .o W.length) (i := .d (.int s.2.2.1)) rfl rfl (cont_o wf0) rfl (atI_mapn .int gs hg) hy rfl (iaddS_int _ _) (hz _)
    rw [hb, sbind_ok]
    unfold applyW
    exact e1
/-! the turns -/
def tB : SemS := (sSeq (sSet 5 (eLstO aNil))
  (sSeq (sSet 6 (eVar 2))
  (sSeq (sWhile 5000 wT wB)
  (sFrz 5 (sSeq (sSet 7 (eCall (one min1D) (aCons (eLc [9, 11] (.tp [(.nm 9), (.nm 11)]) (iSeq (eVar 5)) tTru (eBin idxS (eVar 11) (eC (.int 2)))) aNil)))
  (sSeq (sFor (.tp [(.nm 8), (.tp [(.nm 9), (.nm 10), (.nm 9)])]) (iSeq (eVar 5)) aB)
  (sSet 4 (eFun G_reach (aCons (eVar 0) (aCons (eVar 3) (aCons (eVar 1) aNil)))))))))))
theorem tB_ok (hx : x = .lst (ds.map dcD) ∨ x = .tup (ds.map dcD)) (hd : okDs ds) (hb : 0 ≤ b ∧ b ≤ 9) (hbe : b ≠ e) (F : Fl ds fs b e) (he : e ∈ keys (reach ds fs b)) {a5 a6 a7 a8 a9 a10 a11 : Option Vl} :
    ∃ fs' E' a5' a6' a7' a8' a9' a10', tB (R12 x b e W.length (vB (reach ds fs b)) a5 a6 a7 a8 a9 a10 a11) (Wf W fs E) = .ok .nx (R12 x b e W.length (vB (reach ds fs' b)) a5' a6' a7' a8' a9' a10' a11) (Wf W fs' E') ∧ Fl ds fs' b e ∧ exc ds fs' b < exc ds fs b := by
  have R := reach_ok (fs := fs) hd hb
  obtain ⟨l, w⟩ := R.rb.way e he
  obtain ⟨hl, hmin, F', hlt⟩ := fl_more hd F w hbe
  have ll : l.length ≤ 10 := by have := w.len; have := R.rb.len hd hb; omega
  have wl := way_loop (x := x) (e := e) (n := W.length) (V := Wf W fs E) (a7 := a7) (a8 := a8) (a9 := a9) (a10 := a10) (a11 := a11) w.w 5000 [] (by omega) (by simp; omega)
  rw [List.nil_append] at wl
  obtain ⟨a8', a9', a10', al⟩ := aug_loop (W := W) (E := E ++ [O.dead]) (b := b) (e := e) (more := least l) (a4 := vB (reach ds fs b)) (a5 := some (.d (.lst (l.map stD)))) (a6 := vI b) (a11 := a11) hx l fs a8 a9 a10 (fun s hs => by
    obtain ⟨d, f, d1, _⟩ := w.ed s hs
    exact (List.getElem?_eq_some_iff.mp d1).1) (okF_len F.ok)
  refine ⟨applyW ds (least l) l fs, E ++ [O.dead], some (.d (.lst (l.map stD))), vI b, vI (least l), a8', a9', a10', ?_, F', hlt⟩
  have er := reach_eq (W := Wf W (applyW ds (least l) l fs) (E ++ [O.dead])) (fv := .o W.length) hx flV_f hd hb (okF_len F'.ok)
  have wl : sWhile 5000 wT wB (R12 x b e W.length (vB (reach ds fs b)) (some (.o (Wf W fs E).length)) (vI e) a7 a8 a9 a10 a11) (Wf W fs E ++ [.lst []]) = _ := wl
  refine sSeq_ok (sSet_ok newL_ok) (sSeq_ok (sSet_ok rfl) (sSeq_ok wl ?_))
  rw [sFrz_run (j := (Wf W fs E).length) (ds := l.map stD) rfl get_end, set_lastO, List.append_assoc]
  refine sSeq_ok (W1 := Wf W fs (E ++ [O.dead])) (sSet_ok (d := .d (.int (least l))) ?_) (sSeq_ok (sFor_ok (iSeq_ok rfl (.inl rfl)) al) (sSet_ok (eFun_ok (aCons_ok rfl (a2_ok rfl rfl)) er)))
  have e1 := eLc_ok (own := [9, 11]) (p := .tp [(.nm 9), (.nm 11)]) (t := tTru) (f := eBin idxS (eVar 11) (eC (.int 2))) (ρ := R12 x b e W.length (vB (reach ds fs b)) (some (.d (.lst (l.map stD)))) (vI b) a7 a8 a9 a10 a11) (W := Wf W fs (E ++ [O.dead])) (W1 := Wf W fs (E ++ [O.dead])) (W2 := Wf W fs (E ++ [O.dead])) (ys := l.map fun s => .int s.2.2.2) (iSeq_ok (f := eVar 5) rfl (.inl rfl))
    (lc_mapm stD (fun s => [some (.d x), vI b, vI e, some (.o W.length), vB (reach ds fs b), some (.d (.lst (l.map stD))), vI b, a7, a8, vI s.1, a10, some (.d (.tup [.int s.2.1, .int s.2.2.1, .int s.2.2.2]))]) (fun s => .int s.2.2.2) l fun s hs => ⟨rfl, rfl⟩) (by rw [List.length_map, sizeLine_eq]; omega)
  refine eCall_1 e1 ?_
  have := min1_m hmin
  rw [List.map_map] at this
  exact this
theorem told_loop (hx : x = .lst (ds.map dcD) ∨ x = .tup (ds.map dcD)) (hd : okDs ds) (hlen : ds.length ≤ 30) (hb : 0 ≤ b ∧ b ≤ 9) (hbe : b ≠ e) : ∀ (k m : Nat) (fs : List Int) (E : List O) (a5 a6 a7 a8 a9 a10 a11 : Option Vl), Fl ds fs b e → 3000 + exc ds fs b ≤ k → k < m →
    ∃ fs' E' a5' a6' a7' a8' a9' a10' a11', whileF (tOf (eBin (inS false) (eVar 2) (eVar 4))) tB m (R12 x b e W.length (vB (reach ds fs b)) a5 a6 a7 a8 a9 a10 a11) (Wf W fs E) = .ok .nx (R12 x b e W.length (vB (reach ds fs' b)) a5' a6' a7' a8' a9' a10' a11') (Wf W fs' E') ∧ Fl ds fs' b e ∧ e ∉ keys (reach ds fs' b)
  | k, 0, fs, E, a5, a6, a7, a8, a9, a10, a11, F, h, hm => absurd hm (Nat.not_lt_zero _)
  | k, m + 1, fs, E, a5, a6, a7, a8, a9, a10, a11, F, h, hm => by
    have t : tOf (eBin (inS false) (eVar 2) (eVar 4)) (R12 x b e W.length (vB (reach ds fs b)) a5 a6 a7 a8 a9 a10 a11) (Wf W fs E) = .ok (decide (e ∈ keys (reach ds fs b))) (Wf W fs E) := tOf_ok (eBin_ok rfl rfl (by rw [in_m keyI, lookup_mem, Bool.false_xor]))
    by_cases he : e ∈ keys (reach ds fs b)
    · rw [decide_eq_true he] at t
      obtain ⟨fs1, E1, c5, c6, c7, c8, c9, c10, e1, F1, hlt⟩ := tB_ok (W := W) (E := E) (a5 := a5) (a6 := a6) (a7 := a7) (a8 := a8) (a9 := a9) (a10 := a10) (a11 := a11) hx hd hb hbe F he
      have hv := fl_val (b := b) hd F1.ok
      have hk : 0 < k := by omega
      obtain ⟨fs', E', q5, q6, q7, q8, q9, q10, q11, e2, F2, he2⟩ := told_loop hx hd hlen hb hbe (k - 1) m fs1 E1 c5 c6 c7 c8 c9 c10 a11 F1 (by omega) (by omega)
      exact ⟨fs', E', q5, q6, q7, q8, q9, q10, q11, by rw [whileF_t t e1]; exact e2, F2, he2⟩
    · rw [decide_eq_false he] at t
      exact ⟨fs, E, a5, a6, a7, a8, a9, a10, a11, whileF_f t, F, he⟩
theorem told_eq (hx : x = .lst (ds.map dcD) ∨ x = .tup (ds.map dcD)) (hd : okDs ds) (hlen : ds.length ≤ 30) (hb : 0 ≤ b ∧ b ≤ 9) (hbe : b ≠ e) : ∃ fs, G_told_flows [.d x, .d (.int b), .d (.int e)] W = .ok (.d (.lst (fs.map .int))) W ∧ Fl ds fs b e ∧ e ∉ keys (reach ds fs b) := by
  have F0 : Fl ds (ds.map fun _ => 0) b e := fl_zero hd
  obtain ⟨fs, E, a5, a6, a7, a8, a9, a10, a11, e1, F, he⟩ := told_loop (W := W) (e := e) hx hd hlen hb hbe 3000 5000 (ds.map fun _ => 0) [] none none none none none none none F0 (by rw [fl_val0]; omega) (by omega)
  refine ⟨fs, ?_, F, he⟩
  have e0 := eLcO_ok (own := [9]) (p := .nm 9) (t := tTru) (f := eC (.int 0)) (fi := iSeq (eVar 0)) (ρ := R12 x b e 0 none none none none none none none none |>.set 3 none) (W := W) (W1 := W) (W2 := W) (ds := ds.map dcD) (ys := (ds.map fun _ => (0 : Int)).map .int) (iSeq_ok rfl hx) (by
    rw [List.map_map]
    exact lc_mapm dcD (fun d => [some (.d x), vI b, vI e, none, none, none, none, none, none, some (.d (dcD d)), none, none]) (fun _ => .int 0) ds fun d hd => ⟨rfl, rfl⟩) (by rw [List.length_map, sizeLine_eq]; omega)
  have er := reach_eq (W := Wf W (ds.map fun _ => 0) []) (fv := .o W.length) hx flV_f hd hb (okF_len F0.ok)
  have e1 : sWhile 5000 (tOf (eBin (inS false) (eVar 2) (eVar 4))) tB (R12 x b e W.length (vB (reach ds (ds.map fun _ => 0) b)) none none none none none none none) (Wf W (ds.map fun _ => 0) []) = _ := e1
  have : F_told_flows ([Vl.d x, Vl.d (.int b), Vl.d (.int e)].map some ++ List.replicate (12 - [Vl.d x, Vl.d (.int b), Vl.d (.int e)].length) none) W = .ok (.rt (.o W.length)) (R12 x b e W.length (vB (reach ds fs b)) a5 a6 a7 a8 a9 a10 a11) (Wf W fs E) :=
    sSeq_ok (sSet_ok e0) (sSeq_ok (sSet_ok (eFun_ok (aCons_ok rfl (a2_ok rfl rfl)) er)) (sSeq_ok e1 (sRet_ok rfl)))
  unfold G_told_flows runF
  rw [this]
  simp [finF, frzO, Wf]
end
end K16
set_option Elab.async false
set_option linter.all false
set_option maxRecDepth 5000
set_option maxHeartbeats 1000000
namespace K16
open PySem PySem.Spec PyProof.Rows L2 VL
theorem in_ints {i : Int} {is : List Int} {neg : Bool} {x : D} (hx : x = .lst (is.map .int) ∨ x = .tup (is.map .int)) : inS neg (.int i) x = some (.bl (xor neg (decide (i ∈ is)))) := by
  have e : inD neg (.int i) (is.map .int) = some (.bl (xor neg (decide (i ∈ is)))) := by
    unfold inD
    rw [toPyL_ints]
    show (if (PyData.int i).depth ≤ 60 then _ else _) = _
    rw [if_pos (by simp [PyData.depth])]
    congr 3
    rw [List.any_map]
    clear hx
    induction is with
    | nil => rfl
    | cons a is ih =>
      rw [List.any_cons, ih]
      simp only [Function.comp, PyData.eqv, List.mem_cons]
      by_cases h : i = a
      · subst h; simp
      · have h' : ¬ a = i := fun z => h z.symm
        simp [h, h']
  rcases hx with rfl | rfl <;> exact e
/-! ### check_ducts -/
def okE : D → D → D → Bool
  | .int a, .int b, c => decide (a ≠ b) && inB 0 100 c
  | _, _, _ => false
def okD : D → Bool
  | .tup [a, b, c] => (inB 0 9 a && inB 0 9 b) && okE a b c
  | _ => false
def plD : D → Bool
  | .tup ds => ds.all fun d => (tyN d).isSome
  | d => (tyN d).isSome
theorem plD_ty {d : D} (h : plD d = true) : (tyN d).isSome := by
  cases d <;> first | exact h | rfl
def fb : List D → Option Nat
  | [] => none
  | d :: ds => if okD d then (fb ds).map (· + 1) else some 0
theorem within_lc {a b : Int} {n : Nat} {ds : List D} {ρ : Rho} {W : List O} (hρ : n < ρ.length) (h : ds.all (fun d => (tyN d).isSome) = true) : lcL (.nm n) tTru (eFun G_is_within (aCons (eVar n) (aCons (eC (.int a)) (aCons (eC (.int b)) aNil)))) ρ ds W = .ok (ds.map fun d => .bl (inB a b d)) W := by
  refine lc_map (fun d => ρ.set n (some (.d d))) _ ds fun d hd => ⟨by simp [bindP], ?_⟩
  have e := G_is_within_eq (a := a) (b := b) (W := W) (List.all_eq_true.mp h d hd)
  have e3 : (ρ.set n (some (Vl.d d)))[n]? = some (some (.d d)) := by rw [List.getElem?_set_self hρ]
  simp [e3, e]
def ckB : SemS := (sSeq (sIf (tOrD (tNotD (tTru1 (eFun G_is_tuple_of (aCons (eVar 2) (aCons (eC (.int 3)) aNil))))) (tNotD (tTru1 (eCall (one allD) (aCons (eLc [3] (.nm 3) (iSeq (eSlice (eVar 2) oNone (oSome (eC (.int 2))))) tTru (eFun G_is_within (aCons (eVar 3) (aCons (eC (.int 0)) (aCons (eC (.int 9)) aNil))))) aNil)))))
  (sRaise 2 (aCons (eVar 1) aNil))
  sNx)
  (sIf (tOrD (tOf (eBin eqS (eBin idxS (eVar 2) (eC (.int 0))) (eBin idxS (eVar 2) (eC (.int 1))))) (tNotD (tTru1 (eFun G_is_within (aCons (eBin idxS (eVar 2) (eC (.int 2))) (aCons (eC (.int 0)) (aCons (eC (.int 100)) aNil)))))))
  (sRaise 2 (aCons (eVar 1) aNil))
  sNx))
theorem raise_ok {f : VL.Sem Vl} {c : Nat} {x : D} {ρ : Rho} {W W1 : List O} (h : f ρ W = .ok (.d x) W1) : sRaise c (aCons f aNil) ρ W = .exc c [x] ρ W1 := by
  rw [sRaise_s, a1_ok h, liftS_ok]; rfl
theorem sSeq_exc {a b : SemS} {c : Nat} {fs : List D} {ρ ρ1 : Rho} {W W1 : List O} (h : a ρ W = .exc c fs ρ1 W1) : sSeq a b ρ W = .exc c fs ρ1 W1 := by rw [sSeq_s, h]; rfl
theorem ckB_eq {g x3 : Option Vl} {c : Int} {d : D} {W : List O} (hp : plD d = true) : ckB [g, vI c, some (.d d), x3] W = if okD d then .ok .nx [g, vI c, some (.d d), x3] W else .exc 2 [.int c] [g, vI c, some (.d d), x3] W := by
  have e1 : tTru1 (eFun G_is_tuple_of (aCons (eVar 2) (aCons (eC (.int 3)) aNil))) [g, vI c, some (.d d), x3] W = .ok (tupOf 3 d) W := tTru1_ok (eFun_ok (a2_ok rfl rfl) (G_is_tuple_of_eq (n := 3) (W := W) (plD_ty hp))) rfl
  by_cases ht : tupOf 3 d = true
  · cases d with
    | tup ds =>
      have hl : ds.length = 3 := by
        have := of_decide_eq_true (show decide ((ds.length : Int) = 3) = true from ht)
        omega
      match ds, hl with
      | [a, b, m], _ =>
        rw [ht] at e1
        have hp' : (tyN a).isSome ∧ (tyN b).isSome ∧ (tyN m).isSome := by
          have := List.all_eq_true.mp (show [a, b, m].all (fun d => (tyN d).isSome) = true from hp)
          exact ⟨this a (by simp), this b (by simp), this m (by simp)⟩
        have e2 : eLc [3] (.nm 3) (iSeq (eSlice (eVar 2) oNone (oSome (eC (.int 2))))) tTru (eFun G_is_within (aCons (eVar 3) (aCons (eC (.int 0)) (aCons (eC (.int 9)) aNil)))) [g, vI c, some (.d (.tup [a, b, m])), x3] W = .ok (.d (.lst ([a, b].map fun d => .bl (inB 0 9 d)))) W :=
          eLc_ok (ds := [a, b]) (W1 := W) rfl (within_lc (a := 0) (b := 9) (n := 3) (ρ := [g, vI c, some (.d (.tup [a, b, m])), none]) (by simp) (by simp [hp'.1, hp'.2.1])) (by rw [sizeLine_eq]; simp)
        have e3 : tTru1 (eCall (one allD) (aCons (eLc [3] (.nm 3) (iSeq (eSlice (eVar 2) oNone (oSome (eC (.int 2))))) tTru (eFun G_is_within (aCons (eVar 3) (aCons (eC (.int 0)) (aCons (eC (.int 9)) aNil))))) aNil)) [g, vI c, some (.d (.tup [a, b, m])), x3] W = .ok (inB 0 9 a && inB 0 9 b) W := by
          refine tTru1_ok (eCall_1 e2 (allD_m (inB 0 9) [a, b])) ?_
          simp
        have eo : okD (.tup [a, b, m]) = ((inB 0 9 a && inB 0 9 b) && okE a b m) := rfl
        rw [eo]
        cases hab : (inB 0 9 a && inB 0 9 b) with
        | false =>
          rw [hab] at e3
          rw [Bool.false_and, if_neg Bool.false_ne_true]
          have t := tOr_ff (tNot_ok e1) (tNot_ok e3)
          exact sSeq_exc ((sIf_t t (raise_ok rfl)))
        | true =>
          rw [hab] at e3
          rw [Bool.true_and]
          rw [Bool.and_eq_true] at hab
          have t := tOr_ff (tNot_ok e1) (tNot_ok e3)
          cases a <;> first | (exact (Bool.false_ne_true hab.1).elim) | skip
          cases b <;> first | (exact (Bool.false_ne_true hab.2).elim) | skip
          rename_i a b _
          have t1 : tOf (eBin eqS (eBin idxS (eVar 2) (eC (.int 0))) (eBin idxS (eVar 2) (eC (.int 1)))) [g, vI c, some (.d (.tup [.int a, .int b, m])), x3] W = .ok (decide (a = b)) W := tOf_ok (eBin_ok (eBin_ok rfl rfl rfl) (eBin_ok rfl rfl rfl) (eqS_int _ _))
          have t2 : tTru1 (eFun G_is_within (aCons (eBin idxS (eVar 2) (eC (.int 2))) (aCons (eC (.int 0)) (aCons (eC (.int 100)) aNil)))) [g, vI c, some (.d (.tup [.int a, .int b, m])), x3] W = .ok (inB 0 100 m) W := tTru1_ok (eFun_ok (aCons_ok (eBin_ok rfl rfl rfl) (a2_ok rfl rfl)) (G_is_within_eq (a := 0) (b := 100) (W := W) hp'.2.2)) rfl
          have oe : okE (.int a) (.int b) m = (decide (a ≠ b) && inB 0 100 m) := rfl
          rw [oe]
          by_cases hq : a = b
          · rw [decide_eq_true hq] at t1
            rw [decide_eq_false (by simp [hq]), Bool.false_and, if_neg Bool.false_ne_true]
            exact sSeq_ok (sIf_n t) (sIf_t (tOr_t t1) (raise_ok rfl))
          · rw [decide_eq_false hq] at t1
            rw [decide_eq_true hq, Bool.true_and]
            cases hm : inB 0 100 m with
            | false =>
              rw [hm] at t2
              rw [if_neg Bool.false_ne_true]
              exact sSeq_ok (sIf_n t) (sIf_t (tOr_ff t1 (tNot_ok t2)) (raise_ok rfl))
            | true =>
              rw [hm] at t2
              rw [if_pos rfl]
              exact sSeq_ok (sIf_n t) (sIf_n (tOr_ff t1 (tNot_ok t2)))
    | _ => cases ht
  · have e3 : okD d = false := by
      cases d with
      | tup ds =>
        match ds, ht with
        | [a, b, c], ht => exact absurd rfl ht
        | [], _ => rfl
        | [_], _ => rfl
        | [_, _], _ => rfl
        | _ :: _ :: _ :: _ :: _, _ => rfl
      | _ => rfl
    have ht' : tupOf 3 d = false := by cases h : tupOf 3 d; rfl; exact absurd h ht
    rw [ht'] at e1
    rw [e3, if_neg Bool.false_ne_true]
    exact sSeq_exc (sIf_t (tOr_t (tNot_ok e1)) (raise_ok rfl))
theorem check_loop {g : Option Vl} {W : List O} : ∀ (ds : List D) (c : Int) (y x z : Option Vl), (∀ d ∈ ds, plD d = true) → ∃ y' x', forL (.tp [(.nm 1), (.nm 2)]) ckB (enumC c ds) [g, y, x, z] W = match fb ds with
    | none => .ok .nx [g, y', x', z] W
    | some i => .exc 2 [.int (c + (i : Nat))] [g, y', x', z] W
  | [], c, y, x, z, _ => ⟨y, x, rfl⟩
  | d :: ds, c, y, x, z, hp => by
    rw [enumC_cons, forL_cons (ρ' := [g, vI c, some (.d d), z]) rfl, ckB_eq (hp d List.mem_cons_self)]
    obtain ⟨y', x', e⟩ := check_loop (g := g) (W := W) ds (c + 1) (vI c) (some (.d d)) z fun d hd => hp d (List.mem_cons_of_mem _ hd)
    unfold fb
    cases ho : okD d with
    | true =>
      simp only [if_true, sbind_ok]
      refine ⟨y', x', ?_⟩
      rw [e]
      cases fb ds with
      | none => rfl
      | some i => simp only [Option.map_some]; congr 3; push_cast; omega
    | false => exact ⟨vI c, some (.d d), by simp⟩
theorem check_eq {x : D} {ds : List D} {W : List O} (hx : x = .lst ds ∨ x = .tup ds) (hl : ds.length ≤ 30) (hp : ∀ d ∈ ds, plD d = true) : G_check_ducts [.d x] W = match fb ds with
    | none => .ok (.d .non) W
    | some i => .exc 2 [.int (i : Nat)] W := by
  obtain ⟨y', x', e⟩ := check_loop (g := some (.d x)) (W := W) ds 0 none none none hp
  have e1 := G_is_row_eq (x := x) (W := W) (by rcases hx with rfl | rfl <;> rfl)
  have hr : isRow x = true := by rcases hx with rfl | rfl <;> rfl
  have e2 : lenD x = some (.int ds.length) := by rcases hx with rfl | rfl <;> rfl
  have e3 : enumS [.d x] W = .ok (enumC 0 ds) W := by rcases hx with rfl | rfl <;> rfl
  have hl' : decide ((30 : Int) < ds.length) = false := decide_eq_false (by omega)
  unfold ckB at e
  simp [G_check_ducts, runF, F_check_ducts, e1, hr, e2, e3, hl', e]
  cases fb ds with
  | none => simp
  | some i => simp
theorem check_bad {x : D} {W : List O} (ht : (tyN x).isSome) (hx : isRow x = false ∨ ∃ ds, x = .lst ds ∧ 30 < ds.length) : G_check_ducts [.d x] W = .exc 2 [.int (-1)] W := by
  have e1 := G_is_row_eq (x := x) (W := W) ht
  rcases hx with h | ⟨ds, rfl, h⟩
  · simp [G_check_ducts, runF, F_check_ducts, e1, h]
  · have hl' : decide ((30 : Int) < ds.length) = true := decide_eq_true (by omega)
    simp [G_check_ducts, runF, F_check_ducts, e1, isRow, hl']
theorem okD_t {d : Dc} (h : 0 ≤ d.1 ∧ d.1 ≤ 9 ∧ 0 ≤ d.2.1 ∧ d.2.1 ≤ 9 ∧ d.1 ≠ d.2.1 ∧ 0 ≤ d.2.2 ∧ d.2.2 ≤ 100) : okD (dcD d) = true := by
  show (((decide (0 ≤ d.1) && decide (d.1 ≤ 9)) && (decide (0 ≤ d.2.1) && decide (d.2.1 ≤ 9))) && (decide (d.1 ≠ d.2.1) && (decide (0 ≤ d.2.2) && decide (d.2.2 ≤ 100)))) = true
  simp [h]
theorem fb_good : ∀ {ds : List Dc}, okDs ds → fb (ds.map dcD) = none
  | [], _ => rfl
  | d :: ds, hd => by
    rw [List.map_cons]
    unfold fb
    rw [if_pos (okD_t (hd d List.mem_cons_self)), fb_good (ds := ds) fun q hq => hd q (List.mem_cons_of_mem _ hq)]; rfl
theorem fb_last {z : D} (hz : okD z = false) : ∀ {ds : List Dc}, okDs ds → fb (ds.map dcD ++ [z]) = some ds.length
  | [], _ => by
    show (if okD z then (fb []).map (· + 1) else some 0) = _
    rw [hz]; rfl
  | d :: ds, hd => by
    rw [List.map_cons, List.cons_append]
    unfold fb
    rw [if_pos (okD_t (hd d List.mem_cons_self)), fb_last hz (ds := ds) fun q hq => hd q (List.mem_cons_of_mem _ hq)]; rfl
section
variable {W : List O} {x : D} {b e : Int} {ds : List Dc}
theorem check_good (hx : x = .lst (ds.map dcD) ∨ x = .tup (ds.map dcD)) (hl : ds.length ≤ 30) (hd : okDs ds) : G_check_ducts [.d x] W = .ok (.d .non) W := by
  have := check_eq (W := W) hx (by rw [List.length_map]; exact hl) (fun d hd => by obtain ⟨p, _, rfl⟩ := List.mem_map.mp hd; rfl)
  rw [fb_good hd] at this
  exact this
theorem check_last {z : D} (hl : ds.length ≤ 29) (hd : okDs ds) (hz : okD z = false) (hp : plD z = true) : G_check_ducts [.d (.lst (ds.map dcD ++ [z]))] W = .exc 2 [.int ds.length] W := by
  have := check_eq (W := W) (.inl rfl) (show (ds.map dcD ++ [z]).length ≤ 30 by rw [List.length_append, List.length_map]; simp; omega) (fun d hd => by
    rcases List.mem_append.mp hd with hd | hd
    · obtain ⟨p, _, rfl⟩ := List.mem_map.mp hd; rfl
    · obtain rfl := List.mem_singleton.mp hd; exact hp)
  rw [fb_last hz hd] at this
  exact this
/-! ### check_ends -/
theorem ends_exc {y z : Vl} {c : Nat} {fs : List D} (h : G_check_ducts [.d x] W = .exc c fs W) : G_check_ends [.d x, y, z] W = .exc c fs W := by
  simp [G_check_ends, runF, F_check_ends, h]
theorem ends_odd1 {o : D} {z : Vl} (h : G_check_ducts [.d x] W = .ok (.d .non) W) (ht : (tyN o).isSome) (ho : inB 0 9 o = false) : G_check_ends [.d x, .d o, z] W = .exc 1 [o] W := by
  have e := G_is_within_eq (x := o) (a := 0) (b := 9) (W := W) ht
  simp [G_check_ends, runF, F_check_ends, h, e, ho]
theorem inB_t {i : Int} (h : 0 ≤ i ∧ i ≤ 9) : inB 0 9 (.int i) = true := by
  show (decide (0 ≤ i) && decide (i ≤ 9)) = true
  simp [h]
theorem ends_odd2 {o : D} (h : G_check_ducts [.d x] W = .ok (.d .non) W) (hb : 0 ≤ b ∧ b ≤ 9) (ht : (tyN o).isSome) (ho : inB 0 9 o = false) : G_check_ends [.d x, .d (.int b), .d o] W = .exc 1 [o] W := by
  have e0 := G_is_within_eq (x := .int b) (a := 0) (b := 9) (W := W) rfl
  have e := G_is_within_eq (x := o) (a := 0) (b := 9) (W := W) ht
  simp [G_check_ends, runF, F_check_ends, h, e0, inB_t hb, e, ho]
theorem ends_same (h : G_check_ducts [.d x] W = .ok (.d .non) W) (hb : 0 ≤ b ∧ b ≤ 9) : G_check_ends [.d x, .d (.int b), .d (.int b)] W = .exc 1 [.int b] W := by
  have e0 := G_is_within_eq (x := .int b) (a := 0) (b := 9) (W := W) rfl
  simp [G_check_ends, runF, F_check_ends, h, e0, inB_t hb, eqS_int]
theorem ends_good (h : G_check_ducts [.d x] W = .ok (.d .non) W) (hb : 0 ≤ b ∧ b ≤ 9) (he : 0 ≤ e ∧ e ≤ 9) (hbe : b ≠ e) : G_check_ends [.d x, .d (.int b), .d (.int e)] W = .ok (.d .non) W := by
  have e0 := G_is_within_eq (x := .int b) (a := 0) (b := 9) (W := W) rfl
  have e1 := G_is_within_eq (x := .int e) (a := 0) (b := 9) (W := W) rfl
  have hq : ¬ e = b := fun z => hbe z.symm
  simp [G_check_ends, runF, F_check_ends, h, e0, e1, inB_t hb, inB_t he, eqS_int, hq]
/-! ### most_air, narrow -/
theorem zipL_m {α β : Type} (F : α → D) (G : β → D) (l : List α) (m : List β) : zipL (l.map F) (m.map G) = (l.zip m).map fun p => .tup [F p.1, G p.2] := by
  unfold zipL
  rw [List.zip_map, List.map_map]; rfl
theorem iZip_ok {f : VL.Sem (List Vl)} {ρ : Rho} {W W1 : List O} {a b : D} {l m : List D} (h : f ρ W = .ok [.d a, .d b] W1) (ha : a = .lst l ∨ a = .tup l) (hb : b = .lst m ∨ b = .tup m) : iZip f ρ W = .ok (zipL l m) W1 := by
  show (f ρ W).bind zipS = _
  rw [h, bind_ok]
  rcases ha with rfl | rfl <;> rcases hb with rfl | rfl <;> rfl
theorem exc_sum {b : Int} : ∀ (ds : List Dc) (fs : List Int), (((ds.zip fs).filter fun p => decide (p.1.1 = b)).map (·.2)).sum - (((ds.zip fs).filter fun p => decide (p.1.2.1 = b)).map (·.2)).sum = - exc ds fs b
  | [], _ => rfl
  | _ :: _, [] => rfl
  | d :: ds, f :: fs => by
    have ih := exc_sum (b := b) ds fs
    unfold exc at ih ⊢
    simp only [net, List.zip_cons_cons, List.filter_cons]
    rw [show exG b d = ind (decide (d.2.1 = b)) - ind (decide (d.1 = b)) from rfl]
    unfold ind
    by_cases h1 : d.1 = b <;> by_cases h2 : d.2.1 = b <;> simp [h1, h2] <;> omega
theorem most_eq (hx : x = .lst (ds.map dcD) ∨ x = .tup (ds.map dcD)) (hd : okDs ds) (hlen : ds.length ≤ 30) (hb : 0 ≤ b ∧ b ≤ 9) (he : 0 ≤ e ∧ e ≤ 9) (hbe : b ≠ e) : ∃ fs, G_most_air [.d x, .d (.int b), .d (.int e)] W = .ok (.d (.tup [.int (- exc ds fs b), .tup (fs.map .int)])) W ∧ Fl ds fs b e ∧ e ∉ keys (reach ds fs b) := by
  obtain ⟨fs, e1, F, hne⟩ := told_eq (W := W) hx hd hlen hb hbe
  have hlf := okF_len F.ok
  refine ⟨fs, ?_, F, hne⟩
  have sumq : ∀ (j : Int) (sel : Dc → Int) (a4 : Option Vl), (∀ d : Dc, atI [D.int d.1, .int d.2.1, .int d.2.2] j = some (.int (sel d))) → eCall (one sumD) (aCons (eLc [5, 6] (.tp [(.nm 5), (.nm 6)]) (iZip (aCons (eVar 0) (aCons (eVar 3) aNil))) (tOf (eBin eqS (eBin idxS (eVar 5) (eC (.int j))) (eVar 1))) (eVar 6)) aNil) [some (.d x), vI b, vI e, some (.d (.lst (fs.map .int))), a4, none, none] W = .ok (.d (.int (((ds.zip fs).filter fun p => decide (sel p.1 = b)).map (·.2)).sum)) W := fun j sel a4 hj => by
    refine eCall_1 (x := .lst ((((ds.zip fs).filter fun p => decide (sel p.1 = b)).map (·.2)).map .int)) (eLc_ok (ds := (ds.zip fs).map fun p => .tup [dcD p.1, .int p.2]) (W1 := W) ?_ ?_ ?_) (sumD_m _)
    · rw [iZip_ok (a2_ok rfl rfl) hx (.inl rfl), zipL_m]
    · rw [List.map_map]
      exact lc_filterm (fun p : Dc × Int => .tup [dcD p.1, .int p.2]) (fun p => [some (.d x), vI b, vI e, some (.d (.lst (fs.map .int))), a4, some (.d (dcD p.1)), vI p.2]) (fun p => decide (sel p.1 = b)) (fun p => .int p.2) (ds.zip fs) fun p hp => ⟨rfl, tOf_ok (eBin_ok (eBin_ok rfl rfl (hj p.1)) rfl (eqS_int _ _)), fun _ => rfl⟩
    · rw [List.length_map, List.length_zip, sizeLine_eq]; omega
  have s1 := sumq 0 (fun d => d.1) none fun d => rfl
  have s2 := sumq 1 (fun d => d.2.1) (vI (((ds.zip fs).filter fun p => decide (p.1.1 = b)).map (·.2)).sum) fun d => rfl
  refine runF_rt (ρ := [some (.d x), vI b, vI e, some (.d (.lst (fs.map .int))), vI (((ds.zip fs).filter fun p => decide (p.1.1 = b)).map (·.2)).sum, none, none]) ?_ (take_self W)
  show F_most_air [some (.d x), vI b, vI e, none, none, none, none] W = _
  refine sSeq_ok (sExpr_ok (eFun_ok (aCons_ok rfl (a2_ok rfl rfl)) (ends_good (check_good hx hlen hd) hb he hbe))) (sSeq_ok (sSet_ok (eFun_ok (aCons_ok rfl (a2_ok rfl rfl)) e1)) (sSeq_ok (sSet_ok s1) (sRet_ok (eDisp_ok (a2_ok (eBin_ok rfl s2 (subS_int _ _)) (eCall_1 rfl rfl)) ?_ (mkTup_s (by simp))))))
  rw [exc_sum]; rfl
/-- the side that narrow gives -/
theorem narrow_eq (hx : x = .lst (ds.map dcD) ∨ x = .tup (ds.map dcD)) (hd : okDs ds) (hlen : ds.length ≤ 30) (hb : 0 ≤ b ∧ b ≤ 9) (he : 0 ≤ e ∧ e ≤ 9) (hbe : b ≠ e) : ∃ (fs side : List Int), G_narrow [.d x, .d (.int b), .d (.int e)] W = .ok (.d (.tup (side.map .int))) W ∧ Fl ds fs b e ∧ e ∉ keys (reach ds fs b) ∧ side.Pairwise (· < ·) ∧ side.length ≤ 10 ∧ ∀ k, k ∈ side ↔ k ∈ keys (reach ds fs b) := by
  obtain ⟨fs, e1, F, hne⟩ := told_eq (W := W) hx hd hlen hb hbe
  have R := reach_ok (fs := fs) hd hb
  have hlk := R.rb.len hd hb
  have er := reach_eq (W := W) (fv := .d (.lst (fs.map .int))) hx (fun E => rfl) hd hb (okF_len F.ok)
  have hk : (keys (reach ds fs b)).length ≤ 10 := by rw [List.length_map]; exact hlk
  have es := sortL_ints (is := keys (reach ds fs b)) (by rw [sizeLine_eq]; omega)
  have pm := List.mergeSort_perm (keys (reach ds fs b)) fun a b => decide (a ≤ b)
  refine ⟨fs, _, ?_, F, hne, ?_, ?_, fun k => pm.mem_iff⟩
  · refine runF_rt (ρ := [some (.d x), vI b, vI e]) ?_ (take_self W)
    show F_narrow [some (.d x), vI b, vI e] W = _
    have hso : sortedD (.dic false (dB (reach ds fs b))) = some (.lst (((keys (reach ds fs b)).mergeSort fun a b => decide (a ≤ b)).map .int)) := by
      unfold sortedD
      rw [dkeys_m, Option.bind_some, es]; rfl
    exact sSeq_ok (sExpr_ok (eFun_ok (aCons_ok rfl (a2_ok rfl rfl)) (ends_good (check_good hx hlen hd) hb he hbe))) (sRet_ok (eCall_1 (eCall_1 (eFun_ok (aCons_ok rfl (a2_ok (eFun_ok (aCons_ok rfl (a2_ok rfl rfl)) e1) rfl)) er) hso) rfl))
  · have h1 := sort_pairwise (keys (reach ds fs b))
    have h2 : ((keys (reach ds fs b)).mergeSort fun a b => decide (a ≤ b)).Nodup := pm.nodup_iff.mpr R.rb.nodup
    rw [List.nodup_iff_pairwise_ne] at h2
    exact (h1.and h2).imp fun {a b} h => by omega
  · rw [pm.length_eq]; exact hk
/-! ### let_through -/
theorem thr_sum (is : List Int) : ∀ ds : List Dc, ((ds.filter fun d => decide (d.1 ∈ is) && decide (d.2.1 ∉ is)).map (·.2.2)).sum = through (fun k => decide (k ∈ is)) ds
  | [] => rfl
  | d :: ds => by
    have ih := thr_sum is ds
    unfold through thrG at ih ⊢
    rw [List.map_cons, List.sum_cons, ← ih, List.filter_cons]
    by_cases h1 : d.1 ∈ is <;> by_cases h2 : d.2.1 ∈ is <;> simp [h1, h2]
theorem thr_lc {y : D} {is : List Int} (hx : x = .lst (ds.map dcD) ∨ x = .tup (ds.map dcD)) (hlen : ds.length ≤ 30) (hy : y = .lst (is.map .int) ∨ y = .tup (is.map .int)) : eCall (one sumD) (aCons (eLc [2, 3, 4] (.tp [(.nm 2), (.nm 3), (.nm 4)]) (iSeq (eVar 0)) (tAndD (tOf (eBin (inS false) (eVar 2) (eVar 1))) (tOf (eBin (inS true) (eVar 3) (eVar 1)))) (eVar 4)) aNil) [some (.d x), some (.d y), none, none, none] W = .ok (.d (.int (through (fun k => decide (k ∈ is)) ds))) W := by
  rw [← thr_sum]
  refine eCall_1 (x := .lst (((ds.filter fun d => decide (d.1 ∈ is) && decide (d.2.1 ∉ is)).map (·.2.2)).map .int)) (eLc_ok (ds := ds.map dcD) (W1 := W) (iSeq_ok rfl hx) ?_ (by rw [List.length_map, sizeLine_eq]; omega)) (sumD_m _)
  rw [List.map_map]
  refine lc_filterm dcD (fun d => [some (.d x), some (.d y), vI d.1, vI d.2.1, vI d.2.2]) (fun d => decide (d.1 ∈ is) && decide (d.2.1 ∉ is)) (fun d => .int d.2.2) ds fun d hd => ⟨rfl, ?_, fun _ => rfl⟩
  have t1 : tOf (eBin (inS false) (eVar 2) (eVar 1)) [some (.d x), some (.d y), vI d.1, vI d.2.1, vI d.2.2] W = .ok (decide (d.1 ∈ is)) W := tOf_ok (eBin_ok rfl rfl (by rw [in_ints hy, Bool.false_xor]))
  have t2 : tOf (eBin (inS true) (eVar 3) (eVar 1)) [some (.d x), some (.d y), vI d.1, vI d.2.1, vI d.2.2] W = .ok (decide (d.2.1 ∉ is)) W := tOf_ok (eBin_ok rfl rfl (by rw [in_ints hy]; simp))
  by_cases h : d.1 ∈ is
  · rw [decide_eq_true h] at t1 ⊢
    rw [Bool.true_and]
    exact tAnd_t t1 t2
  · rw [decide_eq_false h] at t1 ⊢
    exact tAnd_f t1
theorem lthr_eq {y : D} {is : List Int} (hx : x = .lst (ds.map dcD) ∨ x = .tup (ds.map dcD)) (hlen : ds.length ≤ 30) (hy : y = .lst (is.map .int) ∨ y = .tup (is.map .int)) : G__law_through [.d x, .d y] W = .ok (.d (.int (through (fun k => decide (k ∈ is)) ds))) W :=
  runF_rt (ρ := [some (.d x), some (.d y), none, none, none]) (sRet_ok (thr_lc hx hlen hy)) (take_self W)
def alls : VL.Sem Vl := (eCall (one allD) (aCons (eLc [2] (.nm 2) (iSeq (eVar 1)) tTru (eFun G_is_within (aCons (eVar 2) (aCons (eC (.int 0)) (aCons (eC (.int 9)) aNil))))) aNil))
def asc : VL.Sem Vl := (eCall (one allD) (aCons (eLc [2, 3] (.tp [(.nm 2), (.nm 3)]) (iZip (aCons (eVar 1) (aCons (eSlice (eVar 1) (oSome (eC (.int 1))) oNone) aNil))) tTru (eBin ltS (eVar 2) (eVar 3))) aNil))
theorem alls_ok {es : List D} (hes : es.all (fun d => (tyN d).isSome) = true) (hl : es.length ≤ 1000) : alls [some (.d x), some (.d (.tup es)), none, none, none] W = .ok (.d (.bl (es.all (inB 0 9)))) W :=
  eCall_1 (eLc_ok (ds := es) (W1 := W) (iSeq_ok rfl (.inr rfl)) (within_lc (n := 2) (ρ := [some (.d x), some (.d (.tup es)), none, none, none]) (by simp) hes) (by rw [sizeLine_eq]; omega)) (allD_m _ _)
theorem asc_ok {is : List Int} (hl : is.length ≤ 1000) : asc [some (.d x), some (.d (.tup (is.map .int))), none, none, none] W = .ok (.d (.bl ((is.zip (is.drop 1)).all fun p => decide (p.1 < p.2)))) W := by
  refine eCall_1 (x := .lst ((is.zip (is.drop 1)).map fun p => .bl (decide (p.1 < p.2)))) (eLc_ok (ds := (is.zip (is.drop 1)).map fun p => .tup [.int p.1, .int p.2]) (W1 := W) ?_ ?_ ?_) (allD_m _ _)
  · have : eSlice (eVar 1) (oSome (eC (.int 1))) oNone [some (.d x), some (.d (.tup (is.map .int))), none, none, none] W = .ok (.d (.tup ((is.drop 1).map .int))) W := by
      rw [List.map_drop]
      show ofO ((some (D.tup (cutD (is.map .int) (some 1) none))).map Vl.d) W = _
      rw [cut_tail _ (by omega)]; rfl
    rw [iZip_ok (a2_ok rfl this) (.inr rfl) (.inr rfl), zipL_m]
  · exact lc_mapm (fun p : Int × Int => .tup [.int p.1, .int p.2]) (fun p => [some (.d x), some (.d (.tup (is.map .int))), vI p.1, vI p.2, none]) (fun p => .bl (decide (p.1 < p.2))) _ fun p hp => ⟨rfl, eBin_ok rfl rfl (ltS_int _ _)⟩
  · rw [List.length_map, List.length_zip, sizeLine_eq]; omega
theorem zip_asc : ∀ {is : List Int}, is.Pairwise (· < ·) → ((is.zip (is.drop 1)).all fun p => decide (p.1 < p.2)) = true
  | [], _ => rfl
  | [_], _ => rfl
  | a :: b :: r, h => by
    have h' := List.pairwise_cons.mp h
    have := zip_asc h'.2
    simp only [List.drop_succ_cons, List.drop_zero, List.zip_cons_cons, List.all_cons, Bool.and_eq_true] at this ⊢
    exact ⟨decide_eq_true (h'.1 b List.mem_cons_self), this⟩
theorem thr_eq {is : List Int} (hx : x = .lst (ds.map dcD) ∨ x = .tup (ds.map dcD)) (hd : okDs ds) (hlen : ds.length ≤ 30) (hi : ∀ i ∈ is, 0 ≤ i ∧ i ≤ 9) (hp : is.Pairwise (· < ·)) (hl : is.length ≤ 1000) : G_let_through [.d x, .d (.tup (is.map .int))] W = .ok (.d (.int (through (fun k => decide (k ∈ is)) ds))) W := by
  have a1 := alls_ok (x := x) (W := W) (es := is.map .int) (by rw [List.all_map]; exact List.all_eq_true.mpr fun _ _ => rfl) (by rw [List.length_map]; exact hl)
  have h1 : (is.map D.int).all (inB 0 9) = true := by rw [List.all_map]; exact List.all_eq_true.mpr fun i hh => inB_t (hi i hh)
  rw [h1] at a1
  have a2 := asc_ok (x := x) (W := W) hl
  rw [zip_asc hp] at a2
  refine runF_rt (ρ := [some (.d x), some (.d (.tup (is.map .int))), none, none, none]) ?_ (take_self W)
  show F_let_through [some (.d x), some (.d (.tup (is.map .int))), none, none, none] W = _
  exact sSeq_ok (sExpr_ok (eFun_ok (a1_ok rfl) (check_good hx hlen hd))) (sSeq_ok (sIf_n (tOr_ff (tNot_ok (b := true) (tTru1_ok (x := .bl true) rfl rfl)) (tNot_ok (tTru1_ok a1 rfl)))) (sSeq_ok (sIf_n (tNot_ok (tTru1_ok a2 rfl))) (sRet_ok (thr_lc hx hlen (.inr rfl)))))
theorem thr_odd1 {o : D} (hx : x = .lst (ds.map dcD) ∨ x = .tup (ds.map dcD)) (hd : okDs ds) (hlen : ds.length ≤ 30) (ho : o = .non ∨ ∃ l, o = .lst l) : G_let_through [.d x, .d o] W = .exc 3 [o] W := by
  have h := check_good (W := W) hx hlen hd
  rcases ho with rfl | ⟨l, rfl⟩ <;> simp [G_let_through, runF, F_let_through, h, isTy, tyN]
theorem runF_exc {n : Nat} {body : SemS} {as : List Vl} {W W' : List O} {ρ : Rho} {c : Nat} {fs : List D} (h : body (as.map some ++ List.replicate (n - as.length) none) W = .exc c fs ρ W') (hW : W'.take W.length = W') : runF n body as W = .exc c fs W' := by
  unfold runF
  rw [h]
  simp only [hW]
theorem thr_odd2 {es : List D} (hx : x = .lst (ds.map dcD) ∨ x = .tup (ds.map dcD)) (hd : okDs ds) (hlen : ds.length ≤ 30) (hes : es.all (fun d => (tyN d).isSome) = true) (hl : es.length ≤ 1000) (ho : es.all (inB 0 9) = false) : G_let_through [.d x, .d (.tup es)] W = .exc 3 [.tup es] W := by
  have a1 := alls_ok (x := x) (W := W) hes hl
  rw [ho] at a1
  refine runF_exc (ρ := [some (.d x), some (.d (.tup es)), none, none, none]) ?_ (take_self W)
  exact sSeq_ok (sExpr_ok (eFun_ok (a1_ok rfl) (check_good hx hlen hd))) (sSeq_exc (sIf_t (tOr_ff (tNot_ok (b := true) (tTru1_ok (x := .bl true) rfl rfl)) (tNot_ok (tTru1_ok a1 rfl))) (raise_ok rfl)))
theorem thr_odd3 {is : List Int} (hx : x = .lst (ds.map dcD) ∨ x = .tup (ds.map dcD)) (hd : okDs ds) (hlen : ds.length ≤ 30) (hl : is.length ≤ 1000) (hi : ∀ i ∈ is, 0 ≤ i ∧ i ≤ 9) (ho : ((is.zip (is.drop 1)).all fun p => decide (p.1 < p.2)) = false) : G_let_through [.d x, .d (.tup (is.map .int))] W = .exc 3 [.tup (is.map .int)] W := by
  have a1 := alls_ok (x := x) (W := W) (es := is.map .int) (by rw [List.all_map]; exact List.all_eq_true.mpr fun _ _ => rfl) (by rw [List.length_map]; exact hl)
  have h1 : (is.map D.int).all (inB 0 9) = true := by rw [List.all_map]; exact List.all_eq_true.mpr fun i hh => inB_t (hi i hh)
  rw [h1] at a1
  have a2 := asc_ok (x := x) (W := W) hl
  rw [ho] at a2
  refine runF_exc (ρ := [some (.d x), some (.d (.tup (is.map .int))), none, none, none]) ?_ (take_self W)
  exact sSeq_ok (sExpr_ok (eFun_ok (a1_ok rfl) (check_good hx hlen hd))) (sSeq_ok (sIf_n (tOr_ff (tNot_ok (b := true) (tTru1_ok (x := .bl true) rfl rfl)) (tNot_ok (tTru1_ok a1 rfl)))) (sSeq_exc (sIf_t (tNot_ok (tTru1_ok a2 rfl)) (raise_ok rfl))))
end
end K16
set_option Elab.async false
set_option linter.all false
set_option maxRecDepth 5000
set_option maxHeartbeats 1000000
namespace K16
open PySem PySem.Spec PyProof.Rows L2 VL
def S0 : SemS := sSet 1 (eLstO (aCons (eVar 0) (aCons (eC (.int 0)) (aCons (eC (.int 116)) (aCons (eC (.int 0)) aNil)))))
def S1 : SemS := sTupO [2, 3] (aCons (eBin eqS (eFun G__law_taken (aCons (eVar 1) (aCons (eC (.int 5)) aNil))) (eC (.int 0))) (aCons (eLstO aNil) aNil))
def S2 : SemS := sSet 4 (eIf (tTru1 (eVar 2)) (eC (.int 10)) (eBin addS (eC (.int 2)) (eFun G__law_taken (aCons (eVar 1) (aCons (eC (.int 4)) aNil)))))
def BS3 : SemS := sSeq (sSet 6 (eFun G__law_taken (aCons (eVar 1) (aCons (eVar 4) aNil))))
  (sExpr (eMeth isL mAppend (eVar 3) (aCons (eDisp mkTup (aCons (eVar 6) (aCons (eFun G__law_pick (aCons (eVar 1) (aCons (eLc [12] (.nm 12) (iRng1 (aCons (eVar 4) aNil)) (tOf (eBin neS (eVar 12) (eVar 6))) (eVar 12)) aNil))) (aCons (eFun G__law_taken (aCons (eVar 1) (aCons (eFun G__law_pick (aCons (eVar 1) (aCons (eDisp mkLst (aCons (eC (.int 4)) (aCons (eC (.int 101)) aNil))) aNil))) aNil))) aNil)))) aNil)))
def S3 : SemS := sFor (.nm 5) (iRng1 (aCons (eFun G__law_taken (aCons (eVar 1) (aCons (eIf (tTru1 (eVar 2)) (eC (.int 31)) (eC (.int 9))) aNil))) aNil)) BS3
def S4 : SemS := sFrz 3 sNx
def S5 : SemS := sSet 7 (eFun G__law_taken (aCons (eVar 1) (aCons (eVar 4) aNil)))
def S6 : SemS := sSet 8 (eFun G__law_pick (aCons (eVar 1) (aCons (eLc [12] (.nm 12) (iRng1 (aCons (eVar 4) aNil)) (tOf (eBin neS (eVar 12) (eVar 7))) (eVar 12)) aNil)))
def S7 : SemS := sTup (.tp [(.nm 9), (.nm 10)]) (eFun G_most_air (aCons (eCall (one tupleD) (aCons (eVar 3) aNil)) (aCons (eVar 7) (aCons (eVar 8) aNil))))
def S8 : SemS := sIf (tOrD (tNotD (tTru1 (eCall isiD (aCons (eVar 10) (aCons (eC (.ty .tuple)) aNil))))) (tOrD (tOf (eBin neS (eCall (one lenD) (aCons (eVar 10) aNil)) (eCall (one lenD) (aCons (eVar 3) aNil)))) (tOf (eBin neS (eLc [25] (.nm 25) (iRng1 (aCons (eCall (one lenD) (aCons (eVar 3) aNil)) aNil)) (tNotD (tOf (eChain leS leS (eC (.int 0)) (eBin idxS (eVar 10) (eVar 25)) (eBin idxS (eBin idxS (eVar 3) (eVar 25)) (eC (.int 2)))))) (eVar 25)) (eDisp mkLst aNil)))))
  (sRet (eC (.bl false)))
  sNx
def S9 : SemS := sSet 11 (eMulO (eDisp mkLst (aCons (eC (.int 0)) aNil)) (eC (.int 10)))
def BS10 : SemS := sSeq (sSub (eBin subS (eBin idxS (eVar 11) (eVar 6)) (eVar 14)) (eVar 11) (eVar 6))
  (sSub (eBin addS (eBin idxS (eVar 11) (eVar 12)) (eVar 14)) (eVar 11) (eVar 12))
def S10 : SemS := sFor (.tp [(.tp [(.nm 6), (.nm 12), (.nm 13)]), (.nm 14)]) (iZip (aCons (eVar 3) (aCons (eVar 10) aNil))) BS10
def S11 : SemS := sIf (tOrD (tOf (eBin neS (eBin idxS (eVar 11) (eVar 8)) (eVar 9))) (tOrD (tOf (eBin neS (eBin idxS (eVar 11) (eVar 7)) (eBin subS (eC (.int 0)) (eVar 9)))) (tOf (eBin neS (eLc [25] (.nm 25) (iRng1 (aCons (eC (.int 10)) aNil)) (tAndD (tOf (eBin neS (eBin idxS (eVar 11) (eVar 25)) (eC (.int 0)))) (tOf (eBin (inS true) (eVar 25) (eDisp mkLst (aCons (eVar 7) (aCons (eVar 8) aNil)))))) (eVar 25)) (eDisp mkLst aNil)))))
  (sRet (eC (.bl false)))
  sNx
def S12 : SemS := sSet 15 (eFun G_narrow (aCons (eVar 3) (aCons (eVar 7) (aCons (eVar 8) aNil))))
def S13 : SemS := sIf (tOrD (tNotD (tTru1 (eCall isiD (aCons (eVar 15) (aCons (eC (.ty .tuple)) aNil))))) (tOrD (tOf (eBin neS (eCall (one listD) (aCons (eVar 15) aNil)) (eFun G__law_unlike (aCons (eVar 15) aNil)))) (tOrD (tOf (eBin (inS true) (eVar 7) (eVar 15))) (tOrD (tOf (eBin (inS false) (eVar 8) (eVar 15))) (tOf (eBin neS (eFun G__law_through (aCons (eVar 3) (aCons (eVar 15) aNil))) (eVar 9)))))))
  (sRet (eC (.bl false)))
  sNx
def BS14 : SemS := (sSeq (sSet 12 (eCall (one tupleD) (aCons (eCall (one sortedD) (aCons (eBin addS (eDisp mkLst (aCons (eVar 7) aNil)) (eLc [25] (.nm 25) (iSeq (eVar 17)) tTru (eBin idxS (eVar 16) (eVar 25)))) aNil)) aNil)))
  (sSeq (sSet 18 (eFun G__law_through (aCons (eVar 3) (aCons (eVar 12) aNil))))
  (sIf (tOrD (tOf (eBin ltS (eVar 18) (eVar 9))) (tAndD (tOf (eBin eqS (eVar 18) (eVar 9))) (tOf (eBin neS (eLc [25] (.nm 25) (iSeq (eVar 15)) (tOf (eBin (inS true) (eVar 25) (eVar 12))) (eVar 25)) (eDisp mkLst aNil)))))
  (sRet (eC (.bl false)))
  sNx)))
def S14 : SemS := sIf (tNotD (tTru1 (eVar 2)))
  (sSeq (sSet 16 (eLc [25] (.nm 25) (iRng1 (aCons (eVar 4) aNil)) (tOf (eBin (inS true) (eVar 25) (eDisp mkLst (aCons (eVar 7) (aCons (eVar 8) aNil))))) (eVar 25)))
  (sFor (.nm 17) (iSeq (eFun G__law_subsets (aCons (eCall (one lenD) (aCons (eVar 16) aNil)) aNil)))
  BS14))
  sNx
def BS15 : SemS := sSeq (sSet 20 (eCall (one tupleD) (aCons (eLc [25] (.nm 25) (iRng1 (aCons (eC (.int 10)) aNil)) (tOf (eBin eqS (eFun G__law_taken (aCons (eVar 1) (aCons (eC (.int 2)) aNil))) (eC (.int 0)))) (eVar 25)) aNil)))
  (sIf (tNotD (tTru1 (eFun (G__law_alike 5) (aCons (eFun G_let_through (aCons (eCall (one tupleD) (aCons (eVar 3) aNil)) (aCons (eVar 20) aNil))) (aCons (eFun G__law_through (aCons (eVar 3) (aCons (eVar 20) aNil))) aNil)))))
  (sRet (eC (.bl false)))
  sNx)
def S15 : SemS := sFor (.nm 19) (iRng1 (aCons (eC (.int 4)) aNil)) BS15
def S16 : SemS := sSet 21 (eBin addS (eSlice (eVar 3) oNone (oSome (eC (.int 29)))) (eDisp mkLst (aCons (eFun G__law_pick (aCons (eVar 1) (aCons (eDisp mkLst (aCons (eC .non) (aCons (eDisp mkTup (aCons (eC (.int 0)) (aCons (eC (.int 0)) (aCons (eC (.int 1)) aNil)))) (aCons (eDisp mkTup (aCons (eC (.int 0)) (aCons (eC (.int 10)) (aCons (eC (.int 1)) aNil)))) (aCons (eDisp mkTup (aCons (eUn negS (eC (.int 1))) (aCons (eC (.int 0)) (aCons (eC (.int 1)) aNil)))) (aCons (eDisp mkTup (aCons (eC (.int 0)) (aCons (eC (.int 1)) (aCons (eUn negS (eC (.int 1))) aNil)))) (aCons (eDisp mkTup (aCons (eC (.int 0)) (aCons (eC (.int 1)) (aCons (eC (.int 101)) aNil)))) (aCons (eDisp mkLst (aCons (eC (.int 0)) (aCons (eC (.int 1)) (aCons (eC (.int 1)) aNil)))) (aCons (eDisp mkTup (aCons (eC (.int 0)) (aCons (eC (.int 1)) aNil))) (aCons (eDisp mkTup (aCons (eC (.int 0)) (aCons (eC (.bl true)) (aCons (eC (.int 1)) aNil)))) aNil)))))))))) aNil))) aNil)))
def S17 : SemS := sSet 22 (eFun G__law_pick (aCons (eVar 1) (aCons (eDisp mkLst (aCons (eUn negS (eC (.int 1))) (aCons (eC (.int 10)) (aCons (eC .non) (aCons (eC (.bl true)) aNil))))) aNil)))
def BS18 : SemS := sSeq (sIf (tOf (eBin neS (eRef hsR (eFunV 23 tbl_law_ask (aCons (eVar 21) (aCons (eVar 22) (aCons (eVar 22) aNil))))) (eDisp mkTup (aCons (eC (.str "ducts")) (aCons (eBin subS (eCall (one lenD) (aCons (eVar 21) aNil)) (eC (.int 1))) aNil)))))
  (sRet (eC (.bl false)))
  sNx)
  (sSeq (sIf (tOf (eBin neS (eRef hsR (eFunV 23 tbl_law_ask (aCons (eFun G__law_pick (aCons (eVar 1) (aCons (eDisp mkLst (aCons (eC .non) (aCons (eBin mulS (eDisp mkLst (aCons (eDisp mkTup (aCons (eC (.int 0)) (aCons (eC (.int 1)) (aCons (eC (.int 1)) aNil)))) aNil)) (eC (.int 31))) (aCons (eC (.int 5)) aNil)))) aNil))) (aCons (eVar 22) (aCons (eVar 22) aNil))))) (eDisp mkTup (aCons (eC (.str "ducts")) (aCons (eUn negS (eC (.int 1))) aNil)))))
  (sRet (eC (.bl false)))
  sNx)
  (sSeq (sIf (tOf (eBin neS (eCall (one reprD) (aCons (eRef hsR (eFunV 23 tbl_law_ask (aCons (eVar 3) (aCons (eVar 22) (aCons (eVar 22) aNil))))) aNil)) (eCall (one reprD) (aCons (eDisp mkTup (aCons (eC (.str "junction")) (aCons (eVar 22) aNil))) aNil))))
  (sRet (eC (.bl false)))
  sNx)
  (sSeq (sIf (tOf (eBin neS (eCall (one reprD) (aCons (eRef hsR (eFunV 23 tbl_law_ask (aCons (eVar 3) (aCons (eVar 7) (aCons (eVar 22) aNil))))) aNil)) (eCall (one reprD) (aCons (eDisp mkTup (aCons (eC (.str "junction")) (aCons (eVar 22) aNil))) aNil))))
  (sRet (eC (.bl false)))
  sNx)
  (sIf (tOf (eBin neS (eRef hsR (eFunV 23 tbl_law_ask (aCons (eVar 3) (aCons (eVar 7) (aCons (eVar 7) aNil))))) (eDisp mkTup (aCons (eC (.str "junction")) (aCons (eVar 7) aNil)))))
  (sRet (eC (.bl false)))
  sNx))))
def S18 : SemS := sFor (.nm 23) (iSeq (eDisp mkLst (aCons (eC (.fn 8)) (aCons (eC (.fn 9)) aNil)))) BS18
def S19 : SemS := sSet 24 (eFun G__law_pick (aCons (eVar 1) (aCons (eDisp mkLst (aCons (eC .non) (aCons (eDisp mkLst (aCons (eC (.int 0)) aNil)) (aCons (eDisp mkTup (aCons (eC (.int 1)) (aCons (eC (.int 0)) aNil))) (aCons (eDisp mkTup (aCons (eC (.int 0)) (aCons (eC (.int 0)) aNil))) (aCons (eDisp mkTup (aCons (eC (.int 10)) aNil)) (aCons (eDisp mkTup (aCons (eUn negS (eC (.int 1))) aNil)) (aCons (eDisp mkTup (aCons (eC (.bl true)) aNil)) aNil)))))))) aNil)))
def S20 : SemS := sRet (eBin eqS (eCall (one reprD) (aCons (eRef hsR (eFun G_let_through (aCons (eVar 3) (aCons (eVar 24) aNil)))) aNil)) (eCall (one reprD) (aCons (eDisp mkTup (aCons (eC (.str "side")) (aCons (eVar 24) aNil))) aNil)))
theorem S_eq : F_law = sSeq S0 (sSeq S1 (sSeq S2 (sSeq S3 (sSeq S4 (sSeq S5 (sSeq S6 (sSeq S7 (sSeq S8 (sSeq S9 (sSeq S10 (sSeq S11 (sSeq S12 (sSeq S13 (sSeq S14 (sSeq S15 (sSeq S16 (sSeq S17 (sSeq S18 (sSeq S19 (S20)))))))))))))))))))) := by
  unfold F_law
  rw [frz_seq]
  rfl

abbrev vD (ds : List Dc) : Option Vl := some (.d (.lst (ds.map dcD)))
abbrev vT (is : List Int) : Option Vl := some (.d (.tup (is.map .int)))
abbrev vG (g : Bool) : Option Vl := some (.d (.bl g))
section
variable {s : List Int} {W : List O} {f : SemS} {sc a2 a3 a4 a5 a6 a7 a8 a9 a10 a11 a12 a13 a14 a15 a16 a17 a18 a19 a20 a21 a22 a23 a24 a25 : Option Vl} {ds : List Dc} {b e m : Int} {g : Bool}
theorem S0_ok {ns : List Int} (k : Ends f [some (.d (.scr ns)), some (.o 0), a2, a3, a4, a5, a6, a7, a8, a9, a10, a11, a12, a13, a14, a15, a16, a17, a18, a19, a20, a21, a22, a23, a24, a25] (RWE ns 0 116 0 [])) : Ends (sSeq S0 f) [some (.d (.scr ns)), none, a2, a3, a4, a5, a6, a7, a8, a9, a10, a11, a12, a13, a14, a15, a16, a17, a18, a19, a20, a21, a22, a23, a24, a25] [] :=
  Ends.seq (by simp [S0]) k
theorem S1_ok (hR : RowE s [] W) (k : ∀ g W, RowE s [.lst []] W → Ends f [sc, some (.o 0), vG g, some (.o 1), a4, a5, a6, a7, a8, a9, a10, a11, a12, a13, a14, a15, a16, a17, a18, a19, a20, a21, a22, a23, a24, a25] W) : Ends (sSeq S1 f) [sc, some (.o 0), a2, a3, a4, a5, a6, a7, a8, a9, a10, a11, a12, a13, a14, a15, a16, a17, a18, a19, a20, a21, a22, a23, a24, a25] W := by
  obtain ⟨v, W1, e1, _, _, hR1⟩ := taken_eq (m := 5) hR (by omega) (by omega)
  have hl : W1.length = 1 := by rw [hR1.len]; rfl
  have e2 := sTupO_ok (is := [2, 3]) (ρ := [sc, some (.o 0), a2, a3, a4, a5, a6, a7, a8, a9, a10, a11, a12, a13, a14, a15, a16, a17, a18, a19, a20, a21, a22, a23, a24, a25]) (f := (aCons (eBin eqS (eFun G__law_taken (aCons (eVar 1) (aCons (eC (.int 5)) aNil))) (eC (.int 0))) (aCons (eLstO aNil) aNil))) (W := W) (a2_ok (eBin_ok (eFun_ok (a2_ok rfl rfl) e1) rfl (eqS_int _ _)) newL_ok) rfl (by simp)
  rw [hl] at e2
  exact Ends.seq e2 (k _ _ (hR1.app (.lst [])))
theorem S2_ok {E : List O} (hR : RowE s E W) (k : ∀ m W, RowE s E W → 2 ≤ m → m ≤ 10 → (g = false → m ≤ 5) → Ends f [sc, some (.o 0), vG g, a3, vI m, a5, a6, a7, a8, a9, a10, a11, a12, a13, a14, a15, a16, a17, a18, a19, a20, a21, a22, a23, a24, a25] W) : Ends (sSeq S2 f) [sc, some (.o 0), vG g, a3, a4, a5, a6, a7, a8, a9, a10, a11, a12, a13, a14, a15, a16, a17, a18, a19, a20, a21, a22, a23, a24, a25] W := by
  have t : tTru1 (eVar 2) [sc, some (.o 0), vG g, a3, a4, a5, a6, a7, a8, a9, a10, a11, a12, a13, a14, a15, a16, a17, a18, a19, a20, a21, a22, a23, a24, a25] W = .ok g W := tTru1_ok rfl (truD_bl g)
  cases g with
  | true => exact Ends.seq (sSet_ok (eIf_t t rfl)) (k 10 W hR (by omega) (by omega) (by simp))
  | false =>
    obtain ⟨v, W1, e1, v0, v1, hR1⟩ := taken_eq (m := 4) hR (by omega) (by omega)
    exact Ends.seq (sSet_ok (eIf_f t (eBin_ok rfl (eFun_ok (a2_ok rfl rfl) e1) (addS_int 2 v)))) (k (2 + v) W1 hR1 (by omega) (by omega) fun _ => by omega)
/-- [other for other in range(many) if other != one] -/
theorem others6 {v : Int} (hm : 0 ≤ m ∧ m ≤ 10) : eLc [12] (.nm 12) (iRng1 (aCons (eVar 4) aNil)) (tOf (eBin neS (eVar 12) (eVar 6))) (eVar 12) [sc, some (.o 0), a2, a3, vI m, a5, vI v, a7, a8, a9, a10, a11, a12, a13, a14, a15, a16, a17, a18, a19, a20, a21, a22, a23, a24, a25] W = .ok (.d (.lst (((rngI m.toNat).filter fun o => !decide (o = v)).map .int))) W := by
  refine eLc_ok (ds := (rngI m.toNat).map .int) (W1 := W) (by rw [iRng1_ok (a1_ok rfl) (by omega), rngD_nat hm.1]) ?_ (by rw [List.length_map, rngI_len, sizeLine_eq]; omega)
  exact lc_filterm D.int (fun o => [sc, some (.o 0), a2, a3, vI m, a5, vI v, a7, a8, a9, a10, a11, vI o, a13, a14, a15, a16, a17, a18, a19, a20, a21, a22, a23, a24, a25]) _ D.int _ fun o ho => ⟨rfl, tOf_ok (eBin_ok rfl rfl (neS_int _ _)), fun _ => rfl⟩
theorem others7 {v : Int} (hm : 0 ≤ m ∧ m ≤ 10) : eLc [12] (.nm 12) (iRng1 (aCons (eVar 4) aNil)) (tOf (eBin neS (eVar 12) (eVar 7))) (eVar 12) [sc, some (.o 0), a2, a3, vI m, a5, a6, vI v, a8, a9, a10, a11, a12, a13, a14, a15, a16, a17, a18, a19, a20, a21, a22, a23, a24, a25] W = .ok (.d (.lst (((rngI m.toNat).filter fun o => !decide (o = v)).map .int))) W := by
  refine eLc_ok (ds := (rngI m.toNat).map .int) (W1 := W) (by rw [iRng1_ok (a1_ok rfl) (by omega), rngD_nat hm.1]) ?_ (by rw [List.length_map, rngI_len, sizeLine_eq]; omega)
  exact lc_filterm D.int (fun o => [sc, some (.o 0), a2, a3, vI m, a5, a6, vI v, a8, a9, a10, a11, vI o, a13, a14, a15, a16, a17, a18, a19, a20, a21, a22, a23, a24, a25]) _ D.int _ fun o ho => ⟨rfl, tOf_ok (eBin_ok rfl rfl (neS_int _ _)), fun _ => rfl⟩
theorem others_pos {v : Int} (hm : 2 ≤ m) : 0 < (((rngI m.toNat).filter fun o => !decide (o = v)).map D.int).length := by
  rw [List.length_map]
  refine List.length_pos_of_mem (a := if v = 0 then 1 else 0) (List.mem_filter.mpr ⟨rngI_mem.mpr (by split <;> omega), ?_⟩)
  simp
  split <;> omega
theorem others_len {v : Int} (hm : 0 ≤ m ∧ m ≤ 10) : (((rngI m.toNat).filter fun o => !decide (o = v)).map D.int).length < 1000000 := by
  have := List.length_filter_le (fun o => !decide (o = v)) (rngI m.toNat)
  rw [rngI_len] at this
  rw [List.length_map]; omega
theorem others_mem {v : Int} {d : D} (hm : 0 ≤ m) (h : d ∈ ((rngI m.toNat).filter fun o => !decide (o = v)).map D.int) : ∃ o : Int, d = .int o ∧ 0 ≤ o ∧ o < m ∧ o ≠ v := by
  obtain ⟨o, ho, rfl⟩ := List.mem_map.mp h
  obtain ⟨h1, h2⟩ := List.mem_filter.mp ho
  have := rngI_mem.mp h1
  simp at h2
  exact ⟨o, rfl, by omega, by omega, h2⟩
theorem S3_ok (hR : RowE s [.lst []] W) (hm : 2 ≤ m ∧ m ≤ 10) (k : ∀ ds W a5 a6, RowE s [.lst (ds.map dcD)] W → okDs ds → ds.length ≤ 30 → Ends f [sc, some (.o 0), vG g, some (.o 1), vI m, a5, a6, a7, a8, a9, a10, a11, a12, a13, a14, a15, a16, a17, a18, a19, a20, a21, a22, a23, a24, a25] W) : Ends (sSeq S3 f) [sc, some (.o 0), vG g, some (.o 1), vI m, a5, a6, a7, a8, a9, a10, a11, a12, a13, a14, a15, a16, a17, a18, a19, a20, a21, a22, a23, a24, a25] W := by
  obtain ⟨v, W1, e1, v0, v1, hR1⟩ := taken_eq (m := if g then 31 else 9) hR (by split <;> omega) (by split <;> omega)
  have hv : v ≤ 30 := by split at v1 <;> omega
  obtain ⟨ρ', W2, e, ds, hR2, hd, hl, a5', a6', rfl⟩ := for_idx (p := .nm 5) (body := BS3) (I := fun k ρ W => ∃ ds : List Dc, RowE s [.lst (ds.map dcD)] W ∧ okDs ds ∧ ds.length = k ∧ ∃ a5 a6, ρ = [sc, some (.o 0), vG g, some (.o 1), vI m, a5, a6, a7, a8, a9, a10, a11, a12, a13, a14, a15, a16, a17, a18, a19, a20, a21, a22, a23, a24, a25]) (rngD 0 v) 0 [sc, some (.o 0), vG g, some (.o 1), vI m, a5, a6, a7, a8, a9, a10, a11, a12, a13, a14, a15, a16, a17, a18, a19, a20, a21, a22, a23, a24, a25] W1 ⟨[], hR1, fun p hp => (by cases hp), rfl, a5, a6, rfl⟩ fun i hi ρ W hI => by
    obtain ⟨ds, hR, hd, hl, a5, a6, rfl⟩ := hI
    obtain ⟨u, W1, q1, u0, u1, hR1⟩ := taken_eq (m := m) hR (by omega) (by omega)
    obtain ⟨d, W2, q2, hdm, hR2⟩ := pick_eq (ds := ((rngI m.toNat).filter fun o => !decide (o = u)).map .int) hR1 (others_pos hm.1) (others_len (by omega))
    obtain ⟨o, rfl, o0, o1, o2⟩ := others_mem (by omega) hdm
    obtain ⟨d, W3, q3, hdm3, hR3⟩ := pick_eq (ds := [.int 4, .int 101]) hR2 (by simp) (by simp)
    obtain ⟨c, rfl, hc⟩ : ∃ c : Int, d = .int c ∧ 0 < c ∧ c ≤ 101 := by
      simp only [List.mem_cons, List.not_mem_nil, or_false] at hdm3
      rcases hdm3 with rfl | rfl <;> exact ⟨_, rfl, by omega, by omega⟩
    obtain ⟨t, W4, q4, t0, t1, hR4⟩ := taken_eq (m := c) hR3 hc.1 (by omega)
    obtain ⟨j, ec, _, _⟩ := rngD_mem (List.getElem_mem hi)
    rw [ec]
    refine ⟨_, [sc, some (.o 0), vG g, some (.o 1), vI m, vI j, vI u, a7, a8, a9, a10, a11, a12, a13, a14, a15, a16, a17, a18, a19, a20, a21, a22, a23, a24, a25], W4.set 1 (.lst ((ds ++ [(u, o, t)]).map dcD)), rfl, ?_, ds ++ [(u, o, t)], hR4.set1, ?_, by rw [List.length_append, hl]; rfl, _, _, rfl⟩
    · refine sSeq_ok (sSet_ok (eFun_ok (a2_ok rfl rfl) q1)) ?_
      rw [List.map_append]
      refine sExpr_ok (VL.app_ok (j := 1) (W1 := W1) (d := dcD (u, o, t)) (ds := ds.map dcD) rfl (eDisp_ok (aCons_ok rfl (a2_ok (eFun_ok (a2_ok rfl (others6 (by omega))) q2) (eFun_ok (a2_ok rfl (eFun_ok (a2_ok rfl (eDisp_ok (a2_ok rfl rfl) rfl (mkLst_s (by simp)))) q3)) q4))) rfl (mkTup_s (by simp))) ⟨_, hR1.get1⟩ hR4.get1 ?_)
      have : i < v.toNat := by
        have := hi
        rw [rngD_nat v0, List.length_map, rngI_len] at this
        exact this
      rw [List.length_map, hl]; omega
    · intro p hp
      rcases List.mem_append.mp hp with hp | hp
      · exact hd p hp
      · obtain rfl := List.mem_singleton.mp hp
        exact ⟨u0, by simp only; omega, o0, by simp only; omega, fun z => o2 z.symm, t0, by simp only; omega⟩
  have hif : eIf (tTru1 (eVar 2)) (eC (.int 31)) (eC (.int 9)) [sc, some (.o 0), vG g, some (.o 1), vI m, a5, a6, a7, a8, a9, a10, a11, a12, a13, a14, a15, a16, a17, a18, a19, a20, a21, a22, a23, a24, a25] W = .ok (.d (.int (if g then 31 else 9))) W := by
    rw [eIf_s, tTru1_ok rfl (truD_bl g), bind_ok]
    cases g <;> rfl
  refine Ends.seq (sFor_ok (iRng1_ok (a1_ok (eFun_ok (a2_ok rfl hif) e1)) (by omega)) e) (k ds W2 a5' a6' hR2 hd ?_)
  rw [hl, rngD_nat v0, List.length_map, rngI_len]
  omega
theorem S4_ok (hR : RowE s [.lst (ds.map dcD)] W) (k : ∀ W, RowE s [.dead] W → Ends f [sc, some (.o 0), a2, vD ds, a4, a5, a6, a7, a8, a9, a10, a11, a12, a13, a14, a15, a16, a17, a18, a19, a20, a21, a22, a23, a24, a25] W) : Ends (sSeq S4 f) [sc, some (.o 0), a2, some (.o 1), a4, a5, a6, a7, a8, a9, a10, a11, a12, a13, a14, a15, a16, a17, a18, a19, a20, a21, a22, a23, a24, a25] W :=
  Ends.seq (sFrz_ok (j := 1) rfl hR.get1) (k _ hR.set1)
theorem S5_ok {E : List O} (hR : RowE s E W) (hm : 2 ≤ m ∧ m ≤ 10) (k : ∀ b W, RowE s E W → 0 ≤ b → b < m → Ends f [sc, some (.o 0), a2, a3, vI m, a5, a6, vI b, a8, a9, a10, a11, a12, a13, a14, a15, a16, a17, a18, a19, a20, a21, a22, a23, a24, a25] W) : Ends (sSeq S5 f) [sc, some (.o 0), a2, a3, vI m, a5, a6, a7, a8, a9, a10, a11, a12, a13, a14, a15, a16, a17, a18, a19, a20, a21, a22, a23, a24, a25] W := by
  obtain ⟨v, W1, e1, v0, v1, hR1⟩ := taken_eq (m := m) hR (by omega) (by omega)
  exact Ends.seq (sSet_ok (eFun_ok (a2_ok rfl rfl) e1)) (k v W1 hR1 v0 v1)
theorem S6_ok {E : List O} (hR : RowE s E W) (hm : 2 ≤ m ∧ m ≤ 10) (k : ∀ e W, RowE s E W → 0 ≤ e → e < m → e ≠ b → Ends f [sc, some (.o 0), a2, a3, vI m, a5, a6, vI b, vI e, a9, a10, a11, a12, a13, a14, a15, a16, a17, a18, a19, a20, a21, a22, a23, a24, a25] W) : Ends (sSeq S6 f) [sc, some (.o 0), a2, a3, vI m, a5, a6, vI b, a8, a9, a10, a11, a12, a13, a14, a15, a16, a17, a18, a19, a20, a21, a22, a23, a24, a25] W := by
  obtain ⟨d, W2, q2, hdm, hR2⟩ := pick_eq (ds := ((rngI m.toNat).filter fun o => !decide (o = b)).map .int) hR (others_pos hm.1) (others_len (by omega))
  obtain ⟨o, rfl, o0, o1, o2⟩ := others_mem (by omega) hdm
  exact Ends.seq (sSet_ok (eFun_ok (a2_ok rfl (others7 (by omega))) q2)) (k o W2 hR2 o0 o1 o2)
theorem S7_ok (hd : okDs ds) (hlen : ds.length ≤ 30) (hb : 0 ≤ b ∧ b ≤ 9) (he : 0 ≤ e ∧ e ≤ 9) (hbe : b ≠ e) (k : ∀ fs, Fl ds fs b e → e ∉ keys (reach ds fs b) → Ends f [sc, some (.o 0), a2, vD ds, a4, a5, a6, vI b, vI e, vI (- exc ds fs b), vT fs, a11, a12, a13, a14, a15, a16, a17, a18, a19, a20, a21, a22, a23, a24, a25] W) : Ends (sSeq S7 f) [sc, some (.o 0), a2, vD ds, a4, a5, a6, vI b, vI e, a9, a10, a11, a12, a13, a14, a15, a16, a17, a18, a19, a20, a21, a22, a23, a24, a25] W := by
  obtain ⟨fs, e1, F, hne⟩ := most_eq (W := W) (x := .tup (ds.map dcD)) (.inr rfl) hd hlen hb he hbe
  exact Ends.seq (sTup_ok (eFun_ok (aCons_ok (eCall_1 (x := .lst (ds.map dcD)) rfl rfl) (a2_ok rfl rfl)) e1) rfl) (k fs F hne)
theorem S8_ok {fs : List Int} (hF : okF ds fs) (hlen : ds.length ≤ 30) (k : Ends f [sc, some (.o 0), a2, vD ds, a4, a5, a6, a7, a8, a9, vT fs, a11, a12, a13, a14, a15, a16, a17, a18, a19, a20, a21, a22, a23, a24, a25] W) : Ends (sSeq S8 f) [sc, some (.o 0), a2, vD ds, a4, a5, a6, a7, a8, a9, vT fs, a11, a12, a13, a14, a15, a16, a17, a18, a19, a20, a21, a22, a23, a24, a25] W := by
  have hlf := okF_len hF
  have e1 := eLc_ok (own := [25]) (p := .nm 25) (t := (tNotD (tOf (eChain leS leS (eC (.int 0)) (eBin idxS (eVar 10) (eVar 25)) (eBin idxS (eBin idxS (eVar 3) (eVar 25)) (eC (.int 2))))))) (f := eVar 25) (ρ := [sc, some (.o 0), a2, vD ds, a4, a5, a6, a7, a8, a9, vT fs, a11, a12, a13, a14, a15, a16, a17, a18, a19, a20, a21, a22, a23, a24, a25]) (W := W) (W1 := W) (W2 := W) (ds := (rngI ds.length).map .int) (ys := []) (fi := iRng1 (aCons (eCall (one lenD) (aCons (eVar 3) aNil)) aNil)) (by rw [iRng1_ok (a1_ok (eCall_1 rfl (lenD_lm _ _))) (by omega), rngD_eq]) (by
    have := lc_filterm (p := .nm 25) (t := (tNotD (tOf (eChain leS leS (eC (.int 0)) (eBin idxS (eVar 10) (eVar 25)) (eBin idxS (eBin idxS (eVar 3) (eVar 25)) (eC (.int 2))))))) (f := eVar 25) (ρ := [sc, some (.o 0), a2, vD ds, a4, a5, a6, a7, a8, a9, vT fs, a11, a12, a13, a14, a15, a16, a17, a18, a19, a20, a21, a22, a23, a24, none]) (W := W) D.int (fun i => [sc, some (.o 0), a2, vD ds, a4, a5, a6, a7, a8, a9, vT fs, a11, a12, a13, a14, a15, a16, a17, a18, a19, a20, a21, a22, a23, a24, vI i]) (fun _ => false) D.int (rngI ds.length) fun i hi => ⟨rfl, by
      obtain ⟨i0, i1⟩ := rngI_mem.mp hi
      have d1 : ds[i.toNat]? = some ds[i.toNat] := List.getElem?_eq_getElem (by omega)
      have f1 : fs[i.toNat]? = some fs[i.toNat] := List.getElem?_eq_getElem (by omega)
      have hq := okF_at hF d1 f1
      have x1 := atI_mapn dcD ds d1
      have x2 := atI_mapn D.int fs f1
      rw [show ((i.toNat : Nat) : Int) = i by omega] at x1 x2
      have := tNot_ok (tOf_ok (chain_lele (ρ := [sc, some (.o 0), a2, vD ds, a4, a5, a6, a7, a8, a9, vT fs, a11, a12, a13, a14, a15, a16, a17, a18, a19, a20, a21, a22, a23, a24, vI i]) (W := W) (fa := eC (.int 0)) (fb := eBin idxS (eVar 10) (eVar 25)) (fc := eBin idxS (eBin idxS (eVar 3) (eVar 25)) (eC (.int 2))) rfl (eBin_ok rfl rfl x2) (eBin_ok (eBin_ok rfl rfl x1) rfl rfl)))
      rw [decide_eq_true hq.1, decide_eq_true hq.2] at this
      exact this, fun h => absurd h Bool.false_ne_true⟩
    rw [isEmpty_filter _ _ _ fun _ _ => rfl] at this
    exact this) (by rw [List.length_map, rngI_len, sizeLine_eq]; omega)
  refine Ends.seq (sIf_n (tOr_ff (b := false) (tNot_ok (b := true) (tTru1_ok (x := .bl true) rfl rfl)) (tOr_ff (tOf_ok (eBin_ok (eCall_1 rfl (lenD_tm _ _)) (eCall_1 rfl (lenD_lm _ _)) ?_)) (tOf_ok (eBin_ok e1 mkNil_ok neS_nil0))))) k
  rw [neS_int, hlf, decide_eq_true rfl]; rfl
theorem S9_ok (hR : RowE s [.dead] W) (k : ∀ W, RowE s [.dead, .lst ((List.replicate 10 (0 : Int)).map .int)] W → Ends f [sc, some (.o 0), a2, a3, a4, a5, a6, a7, a8, a9, a10, some (.o 2), a12, a13, a14, a15, a16, a17, a18, a19, a20, a21, a22, a23, a24, a25] W) : Ends (sSeq S9 f) [sc, some (.o 0), a2, a3, a4, a5, a6, a7, a8, a9, a10, a11, a12, a13, a14, a15, a16, a17, a18, a19, a20, a21, a22, a23, a24, a25] W := by
  have hl : W.length = 2 := by rw [hR.len]; rfl
  have e1 : eMulO (eDisp mkLst (aCons (eC (.int 0)) aNil)) (eC (.int 10)) [sc, some (.o 0), a2, a3, a4, a5, a6, a7, a8, a9, a10, a11, a12, a13, a14, a15, a16, a17, a18, a19, a20, a21, a22, a23, a24, a25] W = .ok (.o W.length) (W ++ [.lst ((List.replicate 10 (0 : Int)).map .int)]) := by
    unfold eMulO
    rw [eDisp_ok (a1_ok rfl) rfl (mkLst_s (by simp)), bind_ok, eC_s, bind_ok]
    rfl
  rw [hl] at e1
  exact Ends.seq (sSet_ok e1) (k _ (hR.app _))
/-! the sums -/
theorem net_append (G : Dc → Int) (d : Dc) (f : Int) : ∀ (ds : List Dc) (fs : List Int), ds.length = fs.length → net G (ds ++ [d]) (fs ++ [f]) = net G ds fs + f * G d
  | [], [], _ => by simp [net]
  | [], _ :: _, h => by cases h
  | _ :: _, [], h => by cases h
  | a :: ds, c :: fs, h => by
    simp only [List.cons_append, net, net_append G d f ds fs (by simpa using h)]
    omega
def sm (ds : List Dc) (fs : List Int) : List Int := rng10.map (exc ds fs)
theorem sm_len (ds : List Dc) (fs : List Int) : (sm ds fs).length = 10 := by unfold sm; rw [List.length_map]; rfl
theorem sm_at {ds : List Dc} {fs : List Int} {v : Int} (h : 0 ≤ v ∧ v ≤ 9) : (sm ds fs)[v.toNat]? = some (exc ds fs v) := by
  unfold sm rng10
  rw [List.getElem?_map, List.getElem?_map, List.getElem?_range (by omega)]
  simp only [Option.map_some]
  rw [show ((v.toNat : Nat) : Int) = v by omega]
theorem sm_step {ds : List Dc} {fs : List Int} {d : Dc} {c : Int} (hl : ds.length = fs.length) (h : 0 ≤ d.1 ∧ d.1 ≤ 9 ∧ 0 ≤ d.2.1 ∧ d.2.1 ≤ 9 ∧ d.1 ≠ d.2.1) :
    ((sm ds fs).set d.1.toNat (exc ds fs d.1 - c)).set d.2.1.toNat (exc ds fs d.2.1 + c) = sm (ds ++ [d]) (fs ++ [c]) := by
  apply List.ext_getElem?
  intro i
  by_cases hi : i < 10
  · have e1 := sm_at (ds := ds) (fs := fs) (v := i) (by omega)
    have e2 := sm_at (ds := ds ++ [d]) (fs := fs ++ [c]) (v := i) (by omega)
    rw [Int.toNat_natCast] at e1 e2
    rw [e2]
    have ex : exc (ds ++ [d]) (fs ++ [c]) i = exc ds fs i + c * exG i d := net_append _ d c ds fs hl
    rw [ex]
    unfold exG ind
    by_cases h2 : d.2.1.toNat = i
    · rw [h2, List.getElem?_set_self (by rw [List.length_set, sm_len]; exact hi)]
      have q : d.2.1 = i := by omega
      have q1 : ¬ d.1 = i := by omega
      simp [q, q1]
    · rw [List.getElem?_set_ne h2]
      have q : ¬ d.2.1 = i := by omega
      by_cases h1 : d.1.toNat = i
      · rw [h1, List.getElem?_set_self (by rw [sm_len]; exact hi)]
        have q1 : d.1 = i := by omega
        simp [q, q1]
        omega
      · rw [List.getElem?_set_ne h1, e1]
        have q1 : ¬ d.1 = i := by omega
        simp [q, q1]
  · rw [List.getElem?_eq_none (by rw [List.length_set, List.length_set, sm_len]; omega), List.getElem?_eq_none (by rw [sm_len]; omega)]
theorem sm_zero : (List.replicate 10 (0 : Int)) = sm [] [] := by decide
theorem S10_ok {fs : List Int} (hR : RowE s [.dead, .lst ((List.replicate 10 (0 : Int)).map .int)] W) (hd : okDs ds) (hF : okF ds fs) (k : ∀ W a6 a12 a13 a14, RowE s [.dead, .lst ((sm ds fs).map .int)] W → Ends f [sc, some (.o 0), a2, vD ds, a4, a5, a6, a7, a8, a9, vT fs, some (.o 2), a12, a13, a14, a15, a16, a17, a18, a19, a20, a21, a22, a23, a24, a25] W) : Ends (sSeq S10 f) [sc, some (.o 0), a2, vD ds, a4, a5, a6, a7, a8, a9, vT fs, some (.o 2), a12, a13, a14, a15, a16, a17, a18, a19, a20, a21, a22, a23, a24, a25] W := by
  have hlf := okF_len hF
  have zl : ((ds.zip fs).map fun p : Dc × Int => D.tup [dcD p.1, .int p.2]).length = ds.length := by rw [List.length_map, List.length_zip]; omega
  obtain ⟨ρ', W', e, hR', c6, c12, c13, c14, rfl⟩ := for_idx (p := .tp [(.tp [(.nm 6), (.nm 12), (.nm 13)]), (.nm 14)]) (body := BS10) (I := fun k ρ W => RowE s [.dead, .lst ((sm (ds.take k) (fs.take k)).map .int)] W ∧ ∃ a6 a12 a13 a14, ρ = [sc, some (.o 0), a2, vD ds, a4, a5, a6, a7, a8, a9, vT fs, some (.o 2), a12, a13, a14, a15, a16, a17, a18, a19, a20, a21, a22, a23, a24, a25]) ((ds.zip fs).map fun p : Dc × Int => D.tup [dcD p.1, .int p.2]) 0 [sc, some (.o 0), a2, vD ds, a4, a5, a6, a7, a8, a9, vT fs, some (.o 2), a12, a13, a14, a15, a16, a17, a18, a19, a20, a21, a22, a23, a24, a25] W ⟨by rw [List.take_zero, List.take_zero, ← sm_zero]; exact hR, a6, a12, a13, a14, rfl⟩ fun i hi ρ W hI => by
    obtain ⟨hR, a6, a12, a13, a14, rfl⟩ := hI
    rw [zl] at hi
    rw [Nat.zero_add] at hR ⊢
    have hif : i < fs.length := by omega
    have ed : ((ds.zip fs).map fun p : Dc × Int => D.tup [dcD p.1, .int p.2])[i]'(by rw [zl]; exact hi) = D.tup [dcD ds[i], .int fs[i]] := by
      rw [List.getElem_map, List.getElem_zip]
    rw [ed]
    obtain ⟨b1, b2, b3, b4, b5, b6⟩ := hd ds[i] (List.getElem_mem hi)
    have tk := sm_step (ds := ds.take i) (fs := fs.take i) (d := ds[i]) (c := fs[i]) (by simp; omega) ⟨b1, b2, b3, b4, b5⟩
    rw [List.take_append_getElem hi, List.take_append_getElem hif] at tk
    have g1 : W[2]? = some (.lst ((sm (ds.take i) (fs.take i)).map .int)) := hR.get 1
    have hL : ((sm (ds.take i) (fs.take i)).map D.int).length = 10 := by rw [List.length_map, sm_len]
    have at1 := atI_mapn D.int _ (sm_at (ds := ds.take i) (fs := fs.take i) (v := ds[i].1) ⟨b1, b2⟩)
    rw [show ((ds[i].1.toNat : Nat) : Int) = ds[i].1 by omega] at at1
    have st1 := setW_lst (y := .int (exc (ds.take i) (fs.take i) ds[i].1 - fs[i])) g1 (i := ds[i].1) b1 (by rw [hL]; omega)
    rw [← List.map_set] at st1
    have hR1 := hR.set 1 (.lst ((((sm (ds.take i) (fs.take i)).set ds[i].1.toNat (exc (ds.take i) (fs.take i) ds[i].1 - fs[i]))).map .int))
    have g2 := hR1.get 1
    have at2 : ((sm (ds.take i) (fs.take i)).set ds[i].1.toNat (exc (ds.take i) (fs.take i) ds[i].1 - fs[i]))[ds[i].2.1.toNat]? = some (exc (ds.take i) (fs.take i) ds[i].2.1) := by
      rw [List.getElem?_set_ne (by omega)]
      exact sm_at ⟨b3, b4⟩
    have at2' := atI_mapn D.int _ at2
    rw [show ((ds[i].2.1.toNat : Nat) : Int) = ds[i].2.1 by omega] at at2'
    have st2 := setW_lst (y := .int (exc (ds.take i) (fs.take i) ds[i].2.1 + fs[i])) g2 (i := ds[i].2.1) b3 (by rw [List.length_map, List.length_set, sm_len]; omega)
    rw [← List.map_set, tk] at st2
    refine ⟨_, [sc, some (.o 0), a2, vD ds, a4, a5, vI ds[i].1, a7, a8, a9, vT fs, some (.o 2), vI ds[i].2.1, vI ds[i].2.2, vI fs[i], a15, a16, a17, a18, a19, a20, a21, a22, a23, a24, a25], _, rfl, sSeq_ok (sSub_ok (eBin_ok (eBin_c rfl rfl (cont_o g1) rfl at1) rfl (subS_int _ _)) rfl rfl st1) (sSub_ok (eBin_ok (eBin_c rfl rfl (cont_o g2) rfl at2') rfl (addS_int _ _)) rfl rfl st2), hR1.set 1 _, _, _, _, _, rfl⟩
  rw [zl, Nat.zero_add, List.take_length, ← hlf, List.take_length] at hR'
  refine Ends.seq (sFor_ok ?_ e) (k W' c6 c12 c13 c14 hR')
  rw [iZip_ok (a2_ok rfl rfl) (.inl rfl) (.inr rfl), zipL_m]
theorem S11_ok {fs : List Int} (hR : RowE s [.dead, .lst ((sm ds fs).map .int)] W) (hd : okDs ds) (hb : 0 ≤ b ∧ b ≤ 9) (he : 0 ≤ e ∧ e ≤ 9) (hbe : b ≠ e) (F : Fl ds fs b e) (k : Ends f [sc, some (.o 0), a2, a3, a4, a5, a6, vI b, vI e, vI (- exc ds fs b), a10, some (.o 2), a12, a13, a14, a15, a16, a17, a18, a19, a20, a21, a22, a23, a24, a25] W) : Ends (sSeq S11 f) [sc, some (.o 0), a2, a3, a4, a5, a6, vI b, vI e, vI (- exc ds fs b), a10, some (.o 2), a12, a13, a14, a15, a16, a17, a18, a19, a20, a21, a22, a23, a24, a25] W := by
  have g1 : W[2]? = some (.lst ((sm ds fs).map .int)) := hR.get 1
  have at' : ∀ v : Int, 0 ≤ v ∧ v ≤ 9 → idxS (.lst ((sm ds fs).map .int)) (.int v) = some (.int (exc ds fs v)) := fun v hv => by
    have := atI_mapn D.int _ (sm_at (ds := ds) (fs := fs) hv)
    rw [show ((v.toNat : Nat) : Int) = v by omega] at this
    exact this
  have e1 := eLc_ok (own := [25]) (p := .nm 25) (t := (tAndD (tOf (eBin neS (eBin idxS (eVar 11) (eVar 25)) (eC (.int 0)))) (tOf (eBin (inS true) (eVar 25) (eDisp mkLst (aCons (eVar 7) (aCons (eVar 8) aNil))))))) (f := eVar 25) (ρ := [sc, some (.o 0), a2, a3, a4, a5, a6, vI b, vI e, vI (- exc ds fs b), a10, some (.o 2), a12, a13, a14, a15, a16, a17, a18, a19, a20, a21, a22, a23, a24, a25]) (W := W) (W1 := W) (W2 := W) (ds := (rngI 10).map .int) (ys := []) (fi := iRng1 (aCons (eC (.int 10)) aNil)) (by rw [iRng1_ok (a1_ok rfl) (by omega)]; rfl) (by
    have := lc_filterm (p := .nm 25) (t := (tAndD (tOf (eBin neS (eBin idxS (eVar 11) (eVar 25)) (eC (.int 0)))) (tOf (eBin (inS true) (eVar 25) (eDisp mkLst (aCons (eVar 7) (aCons (eVar 8) aNil))))))) (f := eVar 25) (ρ := [sc, some (.o 0), a2, a3, a4, a5, a6, vI b, vI e, vI (- exc ds fs b), a10, some (.o 2), a12, a13, a14, a15, a16, a17, a18, a19, a20, a21, a22, a23, a24, none]) (W := W) D.int (fun i => [sc, some (.o 0), a2, a3, a4, a5, a6, vI b, vI e, vI (- exc ds fs b), a10, some (.o 2), a12, a13, a14, a15, a16, a17, a18, a19, a20, a21, a22, a23, a24, vI i]) (fun _ => false) D.int (rngI 10) fun i hi => ⟨rfl, by
      obtain ⟨i0, i1⟩ := rngI_mem.mp hi
      have t1 : tOf (eBin neS (eBin idxS (eVar 11) (eVar 25)) (eC (.int 0))) [sc, some (.o 0), a2, a3, a4, a5, a6, vI b, vI e, vI (- exc ds fs b), a10, some (.o 2), a12, a13, a14, a15, a16, a17, a18, a19, a20, a21, a22, a23, a24, vI i] W = .ok (!decide (exc ds fs i = 0)) W := tOf_ok (eBin_ok (eBin_c rfl rfl (cont_o g1) rfl (at' i (by omega))) rfl (neS_int _ _))
      have t2 : tOf (eBin (inS true) (eVar 25) (eDisp mkLst (aCons (eVar 7) (aCons (eVar 8) aNil)))) [sc, some (.o 0), a2, a3, a4, a5, a6, vI b, vI e, vI (- exc ds fs b), a10, some (.o 2), a12, a13, a14, a15, a16, a17, a18, a19, a20, a21, a22, a23, a24, vI i] W = .ok (xor true (decide (i ∈ [b, e]))) W := tOf_ok (eBin_ok rfl (eDisp_ok (a2_ok rfl rfl) rfl (mkLst_s (by simp))) (in_ints (is := [b, e]) (.inl rfl)))
      by_cases hz : exc ds fs i = 0
      · rw [decide_eq_true hz] at t1
        exact tAnd_f t1
      · rw [decide_eq_false hz] at t1
        have hm : i ∈ [b, e] := by
          by_cases q : i = b
          · subst q; simp
          · by_cases q2 : i = e
            · subst q2; simp
            · exact absurd (F.ex i q q2) hz
        rw [decide_eq_true hm] at t2
        exact tAnd_t t1 t2, fun h => absurd h Bool.false_ne_true⟩
    rw [isEmpty_filter _ _ _ fun _ _ => rfl] at this
    exact this) (by rw [List.length_map, rngI_len, sizeLine_eq]; omega)
  have fe := fl_end hd hb he hbe F
  refine Ends.seq (sIf_n (tOr_ff (tOf_ok (eBin_ok (eBin_c rfl rfl (cont_o g1) rfl (at' e he)) rfl ?_)) (tOr_ff (tOf_ok (eBin_ok (eBin_c rfl rfl (cont_o g1) rfl (at' b hb)) (eBin_ok rfl rfl (subS_int _ _)) ?_)) (tOf_ok (eBin_ok e1 mkNil_ok neS_nil0))))) k
  · rw [neS_int, decide_eq_true fe]; rfl
  · rw [neS_int, decide_eq_true (by omega)]; rfl
/-! the side -/
theorem S12_ok (hd : okDs ds) (hlen : ds.length ≤ 30) (hb : 0 ≤ b ∧ b ≤ 9) (he : 0 ≤ e ∧ e ≤ 9) (hbe : b ≠ e) (k : ∀ fs side, Fl ds fs b e → e ∉ keys (reach ds fs b) → side.Pairwise (· < ·) → side.length ≤ 10 → (∀ k, k ∈ side ↔ k ∈ keys (reach ds fs b)) → Ends f [sc, some (.o 0), a2, vD ds, a4, a5, a6, vI b, vI e, a9, a10, a11, a12, a13, a14, vT side, a16, a17, a18, a19, a20, a21, a22, a23, a24, a25] W) : Ends (sSeq S12 f) [sc, some (.o 0), a2, vD ds, a4, a5, a6, vI b, vI e, a9, a10, a11, a12, a13, a14, a15, a16, a17, a18, a19, a20, a21, a22, a23, a24, a25] W := by
  obtain ⟨fs, side, e1, F, hne, hp, hl, hm⟩ := narrow_eq (W := W) (x := .lst (ds.map dcD)) (.inl rfl) hd hlen hb he hbe
  exact Ends.seq (sSet_ok (eFun_ok (aCons_ok rfl (a2_ok rfl rfl)) e1)) (k fs side F hne hp hl hm)
/-- what is known of the side -/
structure Side (ds : List Dc) (b e amount : Int) (side : List Int) : Prop where
  pw : side.Pairwise (· < ·)
  len : side.length ≤ 10
  hb : b ∈ side
  he : e ∉ side
  val : through (fun k => decide (k ∈ side)) ds = amount
  ge : ∀ S : Int → Bool, S b = true → S e = false → amount ≤ through S ds ∧ (amount = through S ds → ∀ k ∈ side, S k = true)
theorem side_of {fs fs' side : List Int} (hd : okDs ds) (hb : 0 ≤ b ∧ b ≤ 9) (F : Fl ds fs b e) (hne : e ∉ keys (reach ds fs b)) (F' : Fl ds fs' b e) (hne' : e ∉ keys (reach ds fs' b)) (hp : side.Pairwise (· < ·)) (hl : side.length ≤ 10) (hm : ∀ k, k ∈ side ↔ k ∈ keys (reach ds fs' b)) : Side ds b e (- exc ds fs b) side := by
  have R := reach_ok (fs := fs) hd hb
  have R' := reach_ok (fs := fs') hd hb
  obtain ⟨c1, c2⟩ := fl_cut hd hb F R hne
  obtain ⟨d1, d2⟩ := fl_cut hd hb F' R' hne'
  have hb1 : (decide (b ∈ keys (reach ds fs b))) = true := decide_eq_true R.rb.begin
  have hb2 : (decide (b ∈ keys (reach ds fs' b))) = true := decide_eq_true R'.rb.begin
  have x1 := (c2 (fun k => decide (k ∈ keys (reach ds fs' b))) hb2 (decide_eq_false hne')).1
  have x2 := (d2 (fun k => decide (k ∈ keys (reach ds fs b))) hb1 (decide_eq_false hne)).1
  have eq : - exc ds fs b = - exc ds fs' b := by omega
  have fe : (fun k => decide (k ∈ side)) = fun k => decide (k ∈ keys (reach ds fs' b)) := by
    funext k
    by_cases h : k ∈ side
    · rw [decide_eq_true h, decide_eq_true ((hm k).mp h)]
    · rw [decide_eq_false h, decide_eq_false fun z => h ((hm k).mpr z)]
  refine ⟨hp, hl, (hm b).mpr R'.rb.begin, fun z => hne' ((hm e).mp z), by rw [fe, eq]; exact d1.symm, fun S sb se => ?_⟩
  rw [eq]
  obtain ⟨y1, y2⟩ := d2 S sb se
  exact ⟨y1, fun q k hk => y2 q k ((hm k).mp hk)⟩
theorem S13_ok {am : Int} {side : List Int} (hlen : ds.length ≤ 30) (H : Side ds b e am side) (k : Ends f [sc, some (.o 0), a2, vD ds, a4, a5, a6, vI b, vI e, vI am, a10, a11, a12, a13, a14, vT side, a16, a17, a18, a19, a20, a21, a22, a23, a24, a25] W) : Ends (sSeq S13 f) [sc, some (.o 0), a2, vD ds, a4, a5, a6, vI b, vI e, vI am, a10, a11, a12, a13, a14, vT side, a16, a17, a18, a19, a20, a21, a22, a23, a24, a25] W := by
  have hl := H.len
  refine Ends.seq (sIf_n (tOr_ff (b := false) (tNot_ok (b := true) (tTru1_ok (x := .bl true) rfl rfl)) (tOr_ff (tOf_ok (eBin_ok (eCall_1 (z := .lst (side.map .int)) rfl rfl) (eFun_ok (a1_ok rfl) (unlike_eq H.pw (by omega))) ?_)) (tOr_ff (tOf_ok (eBin_ok rfl rfl ?_)) (tOr_ff (tOf_ok (eBin_ok rfl rfl ?_)) (tOf_ok (eBin_ok (eFun_ok (a2_ok rfl rfl) (lthr_eq (.inl rfl) hlen (.inr rfl))) rfl ?_))))))) k
  · rw [neS_ints, decide_eq_true rfl]; rfl
  · rw [in_ints (.inr rfl), decide_eq_true H.hb]; rfl
  · rw [in_ints (.inr rfl), decide_eq_false H.he]; rfl
  · rw [neS_int, decide_eq_true H.val]; rfl
theorem S14_ok {am : Int} {side : List Int} (hlen : ds.length ≤ 30) (H : Side ds b e am side) (hm : 2 ≤ m ∧ m ≤ 10) (hg : g = false → m ≤ 5) (hbe : b ≠ e) (k : ∀ a12 a16 a17 a18, Ends f [sc, some (.o 0), vG g, vD ds, vI m, a5, a6, vI b, vI e, vI am, a10, a11, a12, a13, a14, vT side, a16, a17, a18, a19, a20, a21, a22, a23, a24, a25] W) : Ends (sSeq S14 f) [sc, some (.o 0), vG g, vD ds, vI m, a5, a6, vI b, vI e, vI am, a10, a11, a12, a13, a14, vT side, a16, a17, a18, a19, a20, a21, a22, a23, a24, a25] W := by
  have t0 : tNotD (tTru1 (eVar 2)) [sc, some (.o 0), vG g, vD ds, vI m, a5, a6, vI b, vI e, vI am, a10, a11, a12, a13, a14, vT side, a16, a17, a18, a19, a20, a21, a22, a23, a24, a25] W = .ok (!g) W := tNot_ok (tTru1_ok rfl (truD_bl g))
  cases g with
  | true => exact Ends.seq (sIf_n t0) (k _ _ _ _)
  | false =>
    have hm5 := hg rfl
    have hsl := H.len
    generalize hrest : (rngI m.toNat).filter (fun i => xor true (decide (i ∈ [b, e]))) = rest
    have rl : rest.length ≤ 5 := by
      rw [← hrest]
      have := List.length_filter_le (fun i => xor true (decide (i ∈ [b, e]))) (rngI m.toNat)
      rw [rngI_len] at this; omega
    have rm : ∀ i ∈ rest, i ≠ e := fun i hi => by
      rw [← hrest] at hi
      have := (List.mem_filter.mp hi).2
      simp at this
      exact this.2
    have e16 : eLc [25] (.nm 25) (iRng1 (aCons (eVar 4) aNil)) (tOf (eBin (inS true) (eVar 25) (eDisp mkLst (aCons (eVar 7) (aCons (eVar 8) aNil))))) (eVar 25) [sc, some (.o 0), vG false, vD ds, vI m, a5, a6, vI b, vI e, vI am, a10, a11, a12, a13, a14, vT side, a16, a17, a18, a19, a20, a21, a22, a23, a24, a25] W = .ok (.d (.lst (rest.map .int))) W := by
      rw [← hrest]
      refine eLc_ok (ds := (rngI m.toNat).map .int) (W1 := W) (by rw [iRng1_ok (a1_ok rfl) (by omega), rngD_nat (by omega)]) ?_ (by rw [List.length_map, rngI_len, sizeLine_eq]; omega)
      exact lc_filterm D.int (fun i => [sc, some (.o 0), vG false, vD ds, vI m, a5, a6, vI b, vI e, vI am, a10, a11, a12, a13, a14, vT side, a16, a17, a18, a19, a20, a21, a22, a23, a24, vI i]) (fun i => xor true (decide (i ∈ [b, e]))) D.int _ fun i hi => ⟨rfl, tOf_ok (eBin_ok rfl (eDisp_ok (a2_ok rfl rfl) rfl (mkLst_s (by simp))) (in_ints (is := [b, e]) (.inl rfl))), fun _ => rfl⟩
    obtain ⟨zs, es, zp, _⟩ := lsubsets_eq (n := rest.length) (W := W) (by omega)
    obtain ⟨ρ', W', el, rfl, c12, c17, c18, rfl⟩ := for_inv (p := .nm 17) (body := BS14) (I := fun ρ W' => W' = W ∧ ∃ a12 a17 a18, ρ = [sc, some (.o 0), vG false, vD ds, vI m, a5, a6, vI b, vI e, vI am, a10, a11, a12, a13, a14, vT side, some (.d (.lst (rest.map .int))), a17, a18, a19, a20, a21, a22, a23, a24, a25]) (zs.map tD) [sc, some (.o 0), vG false, vD ds, vI m, a5, a6, vI b, vI e, vI am, a10, a11, a12, a13, a14, vT side, some (.d (.lst (rest.map .int))), a17, a18, a19, a20, a21, a22, a23, a24, a25] W ⟨rfl, _, _, _, rfl⟩ fun d hdm ρ W' hI => by
      obtain ⟨rfl, a12, a17, a18, rfl⟩ := hI
      obtain ⟨part, hpm, rfl⟩ := List.mem_map.mp hdm
      have hsub := sub_mem _ _ (zp.mem_iff.mp hpm)
      have pk : ∀ i ∈ part, ∃ r, idxS (.lst (rest.map .int)) (.int i) = some (.int r) ∧ rest.getD i.toNat 0 = r ∧ r ≠ e := fun i hi => by
        have := hsub.1 i hi
        have h1 : rest[i.toNat]? = some (rest[i.toNat]'(by omega)) := List.getElem?_eq_getElem _
        have h2 := atI_mapn D.int rest h1
        rw [show ((i.toNat : Nat) : Int) = i by omega] at h2
        exact ⟨_, h2, by rw [List.getD_eq_getElem?_getD, h1]; rfl, rm _ (List.getElem_mem _)⟩
      have e25 : eLc [25] (.nm 25) (iSeq (eVar 17)) tTru (eBin idxS (eVar 16) (eVar 25)) [sc, some (.o 0), vG false, vD ds, vI m, a5, a6, vI b, vI e, vI am, a10, a11, a12, a13, a14, vT side, some (.d (.lst (rest.map .int))), some (.d (tD part)), a18, a19, a20, a21, a22, a23, a24, a25] W' = .ok (.d (.lst ((part.map fun i => rest.getD i.toNat 0).map .int))) W' := by
        refine eLc_ok (ds := part.map .int) (W1 := W') (iSeq_ok (x := tD part) rfl (.inr rfl)) ?_ (by rw [List.length_map, sizeLine_eq]; omega)
        rw [List.map_map]
        refine lc_mapm D.int (fun i => [sc, some (.o 0), vG false, vD ds, vI m, a5, a6, vI b, vI e, vI am, a10, a11, a12, a13, a14, vT side, some (.d (.lst (rest.map .int))), some (.d (tD part)), a18, a19, a20, a21, a22, a23, a24, vI i]) (fun i => .int (rest.getD i.toNat 0)) part fun i hi => ⟨rfl, ?_⟩
        obtain ⟨r, h1, h2, _⟩ := pk i hi
        rw [h2]
        exact eBin_ok rfl rfl h1
      generalize hoth : b :: (part.map fun i => rest.getD i.toNat 0) = oth
      have ol : oth.length ≤ 20 := by rw [← hoth]; simp; omega
      have ob : b ∈ oth := by rw [← hoth]; exact List.mem_cons_self
      have oe : e ∉ oth := by
        rw [← hoth]
        intro hm
        rcases List.mem_cons.mp hm with q | q
        · exact hbe q.symm
        · obtain ⟨i, hi, q⟩ := List.mem_map.mp q
          obtain ⟨r, _, h2, h3⟩ := pk i hi
          exact h3 (h2 ▸ q)
      have so := sortL_ints (is := oth) (by rw [sizeLine_eq]; omega)
      have pm := List.mergeSort_perm oth fun a b => decide (a ≤ b)
      generalize (oth.mergeSort fun a b => decide (a ≤ b)) = srt at so pm
      have e12 : eCall (one tupleD) (aCons (eCall (one sortedD) (aCons (eBin addS (eDisp mkLst (aCons (eVar 7) aNil)) (eLc [25] (.nm 25) (iSeq (eVar 17)) tTru (eBin idxS (eVar 16) (eVar 25)))) aNil)) aNil) [sc, some (.o 0), vG false, vD ds, vI m, a5, a6, vI b, vI e, vI am, a10, a11, a12, a13, a14, vT side, some (.d (.lst (rest.map .int))), some (.d (tD part)), a18, a19, a20, a21, a22, a23, a24, a25] W' = .ok (.d (.tup (srt.map .int))) W' := by
        refine eCall_1 (eCall_1 (x := .lst (oth.map .int)) (eBin_ok (x := .lst [.int b]) (eDisp_ok (a1_ok rfl) rfl (mkLst_s (by simp))) e25 ?_) (sortedD_l so)) rfl
        rw [addS_l (by rw [List.length_map, List.length_map, sizeLine_eq]; simp; omega), ← hoth]; rfl
      have hS := H.ge (fun k => decide (k ∈ srt)) (decide_eq_true (pm.mem_iff.mpr ob)) (decide_eq_false fun z => oe (pm.mem_iff.mp z))
      have e18 := lthr_eq (W := W') (x := .lst (ds.map dcD)) (y := .tup (srt.map .int)) (is := srt) (ds := ds) (.inl rfl) hlen (.inr rfl)
      refine ⟨_, [sc, some (.o 0), vG false, vD ds, vI m, a5, a6, vI b, vI e, vI am, a10, a11, vT srt, a13, a14, vT side, some (.d (.lst (rest.map .int))), some (.d (tD part)), vI (through (fun k => decide (k ∈ srt)) ds), a19, a20, a21, a22, a23, a24, a25], W', rfl, ?_, rfl, _, _, _, rfl⟩
      refine sSeq_ok (sSet_ok e12) (sSeq_ok (sSet_ok (eFun_ok (a2_ok rfl rfl) e18)) (sIf_n ?_))
      have t1 : tOf (eBin ltS (eVar 18) (eVar 9)) [sc, some (.o 0), vG false, vD ds, vI m, a5, a6, vI b, vI e, vI am, a10, a11, vT srt, a13, a14, vT side, some (.d (.lst (rest.map .int))), some (.d (tD part)), vI (through (fun k => decide (k ∈ srt)) ds), a19, a20, a21, a22, a23, a24, a25] W' = .ok false W' := tOf_ok (eBin_ok rfl rfl (by rw [ltS_int, decide_eq_false (by omega)]))
      have t2 : tOf (eBin eqS (eVar 18) (eVar 9)) [sc, some (.o 0), vG false, vD ds, vI m, a5, a6, vI b, vI e, vI am, a10, a11, vT srt, a13, a14, vT side, some (.d (.lst (rest.map .int))), some (.d (tD part)), vI (through (fun k => decide (k ∈ srt)) ds), a19, a20, a21, a22, a23, a24, a25] W' = .ok (decide (through (fun k => decide (k ∈ srt)) ds = am)) W' := tOf_ok (eBin_ok rfl rfl (eqS_int _ _))
      refine tOr_ff t1 ?_
      by_cases hq : through (fun k => decide (k ∈ srt)) ds = am
      · rw [decide_eq_true hq] at t2
        refine tAnd_t t2 (tOf_ok (eBin_ok (x := .lst []) (eLc_ok (ds := side.map .int) (W1 := W') (iSeq_ok rfl (.inr rfl)) ?_ (by rw [List.length_map, sizeLine_eq]; omega)) mkNil_ok neS_nil0))
        have := lc_filterm (p := .nm 25) (t := tOf (eBin (inS true) (eVar 25) (eVar 12))) (f := eVar 25) (ρ := [sc, some (.o 0), vG false, vD ds, vI m, a5, a6, vI b, vI e, vI am, a10, a11, vT srt, a13, a14, vT side, some (.d (.lst (rest.map .int))), some (.d (tD part)), vI (through (fun k => decide (k ∈ srt)) ds), a19, a20, a21, a22, a23, a24, none]) (W := W') D.int (fun i => [sc, some (.o 0), vG false, vD ds, vI m, a5, a6, vI b, vI e, vI am, a10, a11, vT srt, a13, a14, vT side, some (.d (.lst (rest.map .int))), some (.d (tD part)), vI (through (fun k => decide (k ∈ srt)) ds), a19, a20, a21, a22, a23, a24, vI i]) (fun i => xor true (decide (i ∈ srt))) D.int side fun i hi => ⟨rfl, tOf_ok (eBin_ok rfl rfl (in_ints (.inr rfl))), fun _ => rfl⟩
        rw [isEmpty_filter _ _ _ fun i hi => by rw [hS.2 hq.symm i hi]; rfl] at this
        exact this
      · rw [decide_eq_false hq] at t2
        exact tAnd_f t2
    refine Ends.seq (sIf_t t0 (sSeq_ok (sSet_ok e16) (sFor_ok (iSeq_ok (eFun_ok (a1_ok (eCall_1 rfl (lenD_lm _ _))) es) (.inl rfl)) el))) (k _ _ _ _)
theorem S15_ok {E : List O} (hR : RowE s E W) (hd : okDs ds) (hlen : ds.length ≤ 30) (k : ∀ W a19 a20, RowE s E W → Ends f [sc, some (.o 0), a2, vD ds, a4, a5, a6, a7, a8, a9, a10, a11, a12, a13, a14, a15, a16, a17, a18, a19, a20, a21, a22, a23, a24, a25] W) : Ends (sSeq S15 f) [sc, some (.o 0), a2, vD ds, a4, a5, a6, a7, a8, a9, a10, a11, a12, a13, a14, a15, a16, a17, a18, a19, a20, a21, a22, a23, a24, a25] W := by
  obtain ⟨ρ', W', el, hR', c19, c20, rfl⟩ := for_inv (p := .nm 19) (body := BS15) (I := fun ρ W => RowE s E W ∧ ∃ a19 a20, ρ = [sc, some (.o 0), a2, vD ds, a4, a5, a6, a7, a8, a9, a10, a11, a12, a13, a14, a15, a16, a17, a18, a19, a20, a21, a22, a23, a24, a25]) (rngD 0 4) [sc, some (.o 0), a2, vD ds, a4, a5, a6, a7, a8, a9, a10, a11, a12, a13, a14, a15, a16, a17, a18, a19, a20, a21, a22, a23, a24, a25] W ⟨hR, _, _, rfl⟩ fun d hdm ρ W hI => by
    obtain ⟨hR, a19, a20, rfl⟩ := hI
    obtain ⟨ys, W2, e1, sl, hR2⟩ := lc_drawn_f (p := .nm 25) (t := tOf (eBin eqS (eFun G__law_taken (aCons (eVar 1) (aCons (eC (.int 2)) aNil))) (eC (.int 0)))) (f := eVar 25) (ρ := [sc, some (.o 0), a2, vD ds, a4, a5, a6, a7, a8, a9, a10, a11, a12, a13, a14, a15, a16, a17, a18, some (.d d), a20, a21, a22, a23, a24, none]) (R := RowE s E) D.int (fun i => [sc, some (.o 0), a2, vD ds, a4, a5, a6, a7, a8, a9, a10, a11, a12, a13, a14, a15, a16, a17, a18, some (.d d), a20, a21, a22, a23, a24, vI i]) (rngI 10) W hR fun a ha W hR => by
      obtain ⟨v, W1, q1, _, _, hR1⟩ := taken_eq (m := 2) hR (by omega) (by omega)
      exact ⟨rfl, decide (v = 0), W1, tOf_ok (eBin_ok (eFun_ok (a2_ok rfl rfl) q1) rfl (eqS_int _ _)), hR1, rfl⟩
    have hy : ys.Pairwise (· < ·) := List.Pairwise.sublist sl (by decide)
    have hyl : ys.length ≤ 10 := sl.length_le
    have hyi : ∀ i ∈ ys, 0 ≤ i ∧ i ≤ 9 := fun i hi => by
      have := rngI_mem.mp (sl.subset hi)
      omega
    have t1 := thr_eq (W := W2) (x := .tup (ds.map dcD)) (is := ys) (ds := ds) (.inr rfl) hd hlen hyi hy (by omega)
    have t2 := lthr_eq (W := W2) (x := .lst (ds.map dcD)) (y := .tup (ys.map .int)) (is := ys) (ds := ds) (.inl rfl) hlen (.inr rfl)
    refine ⟨_, [sc, some (.o 0), a2, vD ds, a4, a5, a6, a7, a8, a9, a10, a11, a12, a13, a14, a15, a16, a17, a18, some (.d d), vT ys, a21, a22, a23, a24, a25], W2, rfl, ?_, hR2, _, _, rfl⟩
    refine sSeq_ok (sSet_ok (eCall_1 (eLc_ok (ds := (rngI 10).map .int) (W1 := W) (by rw [iRng1_ok (a1_ok rfl) (by omega)]; rfl) e1 (by rw [List.length_map, rngI_len, sizeLine_eq]; omega)) rfl)) (sIf_n (tNot_ok (b := true) (tTru1_ok (x := .bl true) (eFun_ok (a2_ok (eFun_ok (a2_ok (eCall_1 (x := .lst (ds.map dcD)) rfl rfl) rfl) t1) (eFun_ok (a2_ok rfl rfl) t2)) (alike_self 5 _ W2 rfl)) rfl)))
  exact Ends.seq (sFor_ok (iRng1_ok (a1_ok rfl) (by omega)) el) (k W' _ _ hR')
/-! the odd ones -/
def bads : List D := [.non, .tup [.int 0, .int 0, .int 1], .tup [.int 0, .int 10, .int 1], .tup [.int (-1), .int 0, .int 1], .tup [.int 0, .int 1, .int (-1)], .tup [.int 0, .int 1, .int 101], .lst [.int 0, .int 1, .int 1], .tup [.int 0, .int 1], .tup [.int 0, .bl true, .int 1]]
theorem bads_no {z : D} (hz : z ∈ bads) : okD z = false ∧ plD z = true := by
  simp only [bads, List.mem_cons, List.not_mem_nil, or_false] at hz
  rcases hz with rfl | rfl | rfl | rfl | rfl | rfl | rfl | rfl | rfl <;> exact ⟨rfl, rfl⟩
theorem S16_ok {E : List O} (hR : RowE s E W) (k : ∀ z W, z ∈ bads → RowE s E W → Ends f [sc, some (.o 0), a2, vD ds, a4, a5, a6, a7, a8, a9, a10, a11, a12, a13, a14, a15, a16, a17, a18, a19, a20, some (.d (.lst ((ds.take 29).map dcD ++ [z]))), a22, a23, a24, a25] W) : Ends (sSeq S16 f) [sc, some (.o 0), a2, vD ds, a4, a5, a6, a7, a8, a9, a10, a11, a12, a13, a14, a15, a16, a17, a18, a19, a20, a21, a22, a23, a24, a25] W := by
  obtain ⟨z, W1, e1, hz, hR1⟩ := pick_eq (ds := bads) hR (by simp [bads]) (by simp [bads])
  refine Ends.seq (sSet_ok (eBin_ok (x := .lst ((ds.take 29).map dcD)) (W1 := W) (y := .lst [z]) ?_ ?_ (addS_l ?_))) (k z W1 hz hR1)
  · rw [List.map_take]
    exact slice_hd (k := 29) rfl rfl (by omega)
  · refine eDisp_ok (a1_ok (eFun_ok (a2_ok (d2 := .d (.lst bads)) (W2 := W) rfl ?_) e1)) rfl (mkLst_s (by simp))
    simp [bads]
  · rw [List.length_map, List.length_take, sizeLine_eq]
    show min 29 ds.length + 1 ≤ _
    omega
def odds : List D := [.int (-1), .int 10, .non, .bl true]
theorem S17_ok {E : List O} (hR : RowE s E W) (k : ∀ z W, z ∈ odds → RowE s E W → Ends f [sc, some (.o 0), a2, a3, a4, a5, a6, a7, a8, a9, a10, a11, a12, a13, a14, a15, a16, a17, a18, a19, a20, a21, some (.d z), a23, a24, a25] W) : Ends (sSeq S17 f) [sc, some (.o 0), a2, a3, a4, a5, a6, a7, a8, a9, a10, a11, a12, a13, a14, a15, a16, a17, a18, a19, a20, a21, a22, a23, a24, a25] W := by
  obtain ⟨z, W1, e1, hz, hR1⟩ := pick_eq (ds := odds) hR (by simp [odds]) (by simp [odds])
  exact Ends.seq (sSet_ok (eFun_ok (a2_ok rfl (eDisp_ok (aCons_ok rfl (aCons_ok rfl (a2_ok rfl rfl))) rfl (mkLst_s (by simp)))) e1)) (k z W1 hz hR1)
theorem odd_sm {z : D} (hz : z ∈ odds) : (∃ p, toPy z = some p ∧ Sm p 20 0) ∧ (tyN z).isSome ∧ inB 0 9 z = false := by
  simp only [odds, List.mem_cons, List.not_mem_nil, or_false] at hz
  rcases hz with rfl | rfl | rfl | rfl
  · exact ⟨⟨_, rfl, sm_int (by decide)⟩, rfl, rfl⟩
  · exact ⟨⟨_, rfl, sm_int (by decide)⟩, rfl, rfl⟩
  · exact ⟨⟨_, rfl, sm_none.mono (by omega) (by omega)⟩, rfl, rfl⟩
  · exact ⟨⟨_, rfl, (sm_bool true).mono (by omega) (by omega)⟩, rfl, rfl⟩
theorem asks {j : Nat} (hj : j = 8 ∨ j = 9) : ∃ g, tbl_law_ask j = some (3, g) ∧ ∀ (x u v : D) (W : List O) (c : Nat) (fs : List D), G_check_ends [.d x, .d u, .d v] W = .exc c fs W → g [.d x, .d u, .d v] W = .exc c fs W := by
  rcases hj with rfl | rfl
  · exact ⟨G_most_air, rfl, fun x u v W c fs e => by simp [G_most_air, runF, F_most_air, e]⟩
  · exact ⟨G_narrow, rfl, fun x u v W c fs e => by simp [G_narrow, runF, F_narrow, e]⟩
def big31 : D := .lst (List.replicate 31 (.tup [.int 0, .int 1, .int 1]))
theorem check_three {y : D} (hy : y ∈ [D.non, big31, .int 5]) : G_check_ducts [.d y] W = .exc 2 [.int (-1)] W := by
  simp only [List.mem_cons, List.not_mem_nil, or_false] at hy
  rcases hy with rfl | rfl | rfl
  · exact check_bad rfl (.inl rfl)
  · exact check_bad rfl (.inr ⟨_, rfl, by simp⟩)
  · exact check_bad rfl (.inl rfl)
theorem S18_ok {E : List O} {z o : D} (hR : RowE s E W) (hd : okDs ds) (hlen : ds.length ≤ 30) (hb : 0 ≤ b ∧ b ≤ 9) (hz : z ∈ bads) (ho : o ∈ odds) (k : ∀ W a23, RowE s E W → Ends f [sc, some (.o 0), a2, vD ds, a4, a5, a6, vI b, a8, a9, a10, a11, a12, a13, a14, a15, a16, a17, a18, a19, a20, some (.d (.lst ((ds.take 29).map dcD ++ [z]))), some (.d o), a23, a24, a25] W) : Ends (sSeq S18 f) [sc, some (.o 0), a2, vD ds, a4, a5, a6, vI b, a8, a9, a10, a11, a12, a13, a14, a15, a16, a17, a18, a19, a20, some (.d (.lst ((ds.take 29).map dcD ++ [z]))), some (.d o), a23, a24, a25] W := by
  have hd2 : okDs (ds.take 29) := fun q hq => hd q (List.mem_of_mem_take hq)
  have hl2 : (ds.take 29).length ≤ 29 := by rw [List.length_take]; omega
  obtain ⟨⟨p, ep, hp⟩, oty, oin⟩ := odd_sm ho
  have e3 := repr_w (s := "junction") ep hp (by decide) (by decide) (by omega) (by omega)
  obtain ⟨ρ', W', e, hR', c23, rfl⟩ := for_inv (p := .nm 23) (body := BS18) (I := fun ρ W => RowE s E W ∧ ∃ a23, ρ = [sc, some (.o 0), a2, vD ds, a4, a5, a6, vI b, a8, a9, a10, a11, a12, a13, a14, a15, a16, a17, a18, a19, a20, some (.d (.lst ((ds.take 29).map dcD ++ [z]))), some (.d o), a23, a24, a25]) [.fn 8, .fn 9] [sc, some (.o 0), a2, vD ds, a4, a5, a6, vI b, a8, a9, a10, a11, a12, a13, a14, a15, a16, a17, a18, a19, a20, some (.d (.lst ((ds.take 29).map dcD ++ [z]))), some (.d o), a23, a24, a25] W ⟨hR, _, rfl⟩ fun d hdm ρ W' hI => by
    obtain ⟨hR', a23, rfl⟩ := hI
    obtain ⟨j, rfl, hj⟩ : ∃ j, d = .fn j ∧ (j = 8 ∨ j = 9) := by
      simp only [List.mem_cons, List.not_mem_nil, or_false] at hdm
      rcases hdm with rfl | rfl <;> exact ⟨_, rfl, by decide⟩
    obtain ⟨g, ht, hgx⟩ := asks hj
    obtain ⟨y, W2, q2, hy, hR2⟩ := pick_eq (ds := [.non, big31, .int 5]) hR' (by simp) (by simp)
    have cg := check_good (W := W2) (x := .lst (ds.map dcD)) (.inl rfl) hlen hd
    refine ⟨_, [sc, some (.o 0), a2, vD ds, a4, a5, a6, vI b, a8, a9, a10, a11, a12, a13, a14, a15, a16, a17, a18, a19, a20, some (.d (.lst ((ds.take 29).map dcD ++ [z]))), some (.d o), some (.d (.fn j)), a24, a25], W2, rfl, ?_, hR2, _, rfl⟩
    refine sSeq_ok (W1 := W') (sIf_n (tOf_ok (eBin_ok (eRef_exc (eFunV_ok rfl ht (aCons_ok rfl (a2_ok rfl rfl)) rfl (hgx _ _ _ _ _ _ (ends_exc (check_last hl2 hd2 (bads_no hz).1 (bads_no hz).2)))) rfl) (eDisp_ok (a2_ok rfl (eBin_ok (eCall_1 rfl rfl) rfl rfl)) rfl (mkTup_s (by simp))) ?_))) ?_
    · have hq : ((((ds.take 29).map dcD ++ [z]).length : Nat) : Int) - 1 = ((ds.take 29).length : Int) := by rw [List.length_append, List.length_map]; simp
      show neS (.tup [.str "ducts", .int ((ds.take 29).length : Int)]) (.tup [.str "ducts", .int (((((ds.take 29).map dcD ++ [z]).length : Nat) : Int) - 1)]) = _
      rw [hq]
      exact neS_wi _ _
    refine sSeq_ok (W1 := W2) (sIf_n (tOf_ok (eBin_ok (eRef_exc (eFunV_ok rfl ht (aCons_ok (eFun_ok (a2_ok (d2 := .d (.lst [.non, big31, .int 5])) (W2 := W') rfl ?_) q2) (a2_ok rfl rfl)) rfl (hgx _ _ _ _ _ _ (ends_exc (check_three hy)))) rfl) (eDisp_ok (a2_ok rfl rfl) rfl (mkTup_s (by simp))) (neS_wi _ _)))) ?_
    · have hm : mulS (.lst [.tup [.int 0, .int 1, .int 1]]) (.int 31) = some big31 := rfl
      exact eDisp_ok (aCons_ok rfl (a2_ok (eBin_ok (eDisp_ok (a1_ok (eDisp_ok (aCons_ok rfl (a2_ok rfl rfl)) rfl (mkTup_s (by simp)))) rfl (mkLst_s (by simp))) rfl hm) rfl)) rfl (mkLst_s (by simp))
    refine sSeq_ok (W1 := W2) (sIf_n (tOf_ok (eBin_ok (eCall_1 (eRef_exc (eFunV_ok rfl ht (aCons_ok rfl (a2_ok rfl rfl)) rfl (hgx _ _ _ _ _ _ (ends_odd1 cg oty oin))) rfl) e3) (eCall_1 (eDisp_ok (a2_ok rfl rfl) rfl (mkTup_s (by simp))) e3) (neS_strself _)))) ?_
    refine sSeq_ok (W1 := W2) (sIf_n (tOf_ok (eBin_ok (eCall_1 (eRef_exc (eFunV_ok rfl ht (aCons_ok rfl (a2_ok rfl rfl)) rfl (hgx _ _ _ _ _ _ (ends_odd2 cg hb oty oin))) rfl) e3) (eCall_1 (eDisp_ok (a2_ok rfl rfl) rfl (mkTup_s (by simp))) e3) (neS_strself _)))) ?_
    exact sIf_n (tOf_ok (eBin_ok (eRef_exc (eFunV_ok rfl ht (aCons_ok rfl (a2_ok rfl rfl)) rfl (hgx _ _ _ _ _ _ (ends_same cg hb))) rfl) (eDisp_ok (a2_ok rfl rfl) rfl (mkTup_s (by simp))) (neS_wi _ _)))
  exact Ends.seq (sFor_ok (iSeq_ok (x := .lst [.fn 8, .fn 9]) (W1 := W) (eDisp_ok (a2_ok rfl rfl) rfl (mkLst_s (by simp))) (.inl rfl)) e) (k W' _ hR')
def nones : List D := [.non, .lst [.int 0], .tup [.int 1, .int 0], .tup [.int 0, .int 0], .tup [.int 10], .tup [.int (-1)], .tup [.bl true]]
theorem S19_ok {E : List O} (hR : RowE s E W) (k : ∀ z W, z ∈ nones → Ends f [sc, some (.o 0), a2, a3, a4, a5, a6, a7, a8, a9, a10, a11, a12, a13, a14, a15, a16, a17, a18, a19, a20, a21, a22, a23, some (.d z), a25] W) : Ends (sSeq S19 f) [sc, some (.o 0), a2, a3, a4, a5, a6, a7, a8, a9, a10, a11, a12, a13, a14, a15, a16, a17, a18, a19, a20, a21, a22, a23, a24, a25] W := by
  obtain ⟨z, W1, e1, hz, hR1⟩ := pick_eq (ds := nones) hR (by simp [nones]) (by simp [nones])
  refine Ends.seq (sSet_ok (eFun_ok (a2_ok (d2 := .d (.lst nones)) (W2 := W) rfl ?_) e1)) (k z W1 hz)
  simp [nones]
theorem none_sm {z : D} (hz : z ∈ nones) : ∃ p, toPy z = some p ∧ Sm p 100 1 := by
  have tup : ∀ is : List Int, is.length ≤ 2 → (∀ i ∈ is, i.natAbs < 2 ^ 20) → Sm (.tuple (is.map .int)) 100 1 := fun is h1 h2 =>
    (sm_tuple (w := 20) (d := 0) (fun x hx => by
      obtain ⟨i, hi, rfl⟩ := List.mem_map.mp hx
      exact sm_int (h2 i hi))).mono (by rw [List.length_map]; omega) (by omega)
  simp only [nones, List.mem_cons, List.not_mem_nil, or_false] at hz
  rcases hz with rfl | rfl | rfl | rfl | rfl | rfl | rfl
  · exact ⟨_, rfl, sm_none.mono (by omega) (by omega)⟩
  · exact ⟨_, rfl, (sm_list (xs := [.int 0]) (w := 20) (d := 0) (fun x hx => by obtain rfl := List.mem_singleton.mp hx; exact sm_int (by decide))).mono (by simp) (by omega)⟩
  · exact ⟨_, rfl, tup [1, 0] (by simp) (by decide)⟩
  · exact ⟨_, rfl, tup [0, 0] (by simp) (by decide)⟩
  · exact ⟨_, rfl, tup [10] (by simp) (by decide)⟩
  · exact ⟨_, rfl, tup [-1] (by simp) (by decide)⟩
  · exact ⟨_, rfl, (sm_tuple (xs := [.bool true]) (w := 20) (d := 0) (fun x hx => by obtain rfl := List.mem_singleton.mp hx; exact (sm_bool true).mono (by omega) (by omega))).mono (by simp) (by omega)⟩
theorem none_no {z : D} (hd : okDs ds) (hlen : ds.length ≤ 30) (hz : z ∈ nones) : G_let_through [.d (.lst (ds.map dcD)), .d z] W = .exc 3 [z] W := by
  simp only [nones, List.mem_cons, List.not_mem_nil, or_false] at hz
  rcases hz with rfl | rfl | rfl | rfl | rfl | rfl | rfl
  · exact thr_odd1 (.inl rfl) hd hlen (.inl rfl)
  · exact thr_odd1 (.inl rfl) hd hlen (.inr ⟨_, rfl⟩)
  · exact thr_odd3 (is := [1, 0]) (.inl rfl) hd hlen (by simp) (by decide) (by decide)
  · exact thr_odd3 (is := [0, 0]) (.inl rfl) hd hlen (by simp) (by decide) (by decide)
  · exact thr_odd2 (.inl rfl) hd hlen rfl (by simp) rfl
  · exact thr_odd2 (.inl rfl) hd hlen rfl (by simp) rfl
  · exact thr_odd2 (.inl rfl) hd hlen rfl (by simp) rfl
theorem S20_ok {z : D} (hd : okDs ds) (hlen : ds.length ≤ 30) (hz : z ∈ nones) : Ends S20 [sc, some (.o 0), a2, vD ds, a4, a5, a6, a7, a8, a9, a10, a11, a12, a13, a14, a15, a16, a17, a18, a19, a20, a21, a22, a23, some (.d z), a25] W := by
  obtain ⟨p, ep, hp⟩ := none_sm hz
  have e3 := repr_w (s := "side") ep hp (by decide) (by decide) (by omega) (by omega)
  exact Ends.ret (eBin_ok (eCall_1 (eRef_exc (eFun_ok (a2_ok rfl rfl) (none_no hd hlen hz)) rfl) e3) (eCall_1 (eDisp_ok (a2_ok rfl rfl) rfl (mkTup_s (by simp))) e3) (eqS_strself _))
end
theorem law_true (ns : List Int) : ∃ W', runF N_law.length F_law [.d (.scr ns)] [] = .ok (.d (.bl true)) W' := by
  refine Ends.run ?_
  rw [S_eq]
  refine S0_ok (S1_ok (RowE.row0 ns 116 (by omega)) fun g W hR => S2_ok hR fun m W hR m0 m1 hg => S3_ok hR ⟨m0, m1⟩ fun ds W a5 a6 hR hd hl => S4_ok hR fun W hR => S5_ok hR ⟨m0, m1⟩ fun b W hR b0 b1 => S6_ok hR ⟨m0, m1⟩ fun e W hR e0 e1 hbe => ?_)
  refine S7_ok hd hl ⟨b0, by omega⟩ ⟨e0, by omega⟩ (fun z => hbe z.symm) fun fs F hne => S8_ok F.ok hl (S9_ok hR fun W hR => S10_ok hR hd F.ok fun W a6 a12 a13 a14 hR => S11_ok hR hd ⟨b0, by omega⟩ ⟨e0, by omega⟩ (fun z => hbe z.symm) F ?_)
  refine S12_ok hd hl ⟨b0, by omega⟩ ⟨e0, by omega⟩ (fun z => hbe z.symm) fun fs' side F' hne' hp hsl hm => ?_
  have H := side_of hd ⟨b0, by omega⟩ F hne F' hne' hp hsl hm
  refine S13_ok hl H (S14_ok hl H ⟨m0, m1⟩ hg (fun z => hbe z.symm) fun a12 a16 a17 a18 => S15_ok hR hd hl fun W a19 a20 hR => S16_ok hR fun z W hz hR => S17_ok hR fun o W ho hR => S18_ok hR hd hl ⟨b0, by omega⟩ hz ho fun W a23 hR => S19_ok hR fun y W hy => S20_ok hd hl hy)
end K16
set_option Elab.async false
set_option linter.all false
set_option maxRecDepth 100000
set_option maxHeartbeats 4000000
namespace K16
open PySem PySem.Spec PyProof.Rows L2 VL
/-- a def of the text, as it stands behind the top -/
def DA (K : PySem.W.Frag) (x : Str) (st : Stmt) : Prop := ∃ (f : Addr) (fd : FuncData), PySem.W.nsIn K mainGlobals x = some (some (.ref f)) ∧ Fun K x x st f fd
structure EA (K : PySem.W.Frag) (fI : Addr) (x : Str) (C : Addr) : Prop where
  n : PySem.W.nsIn K mainGlobals x = some (some (.ref C))
  i : PySem.W.findIn K (.ref C) "__init__" = some (some (.ref fI))
  v : PySem.W.findIn K (.ref C) "value" = some none
  T : OexC K C
  ga : PySem.W.findIn K (.ref C) "__getattribute__" = some (some (.builtin "BaseException.__getattribute__"))
  gg : PySem.W.findIn K (.ref C) "__getattr__" = some none
  hd : PySem.W.hasDictIn K C = true
abbrev s_init : Stmt := inClass (topS 6) 0
theorem sc_init : FnScope ["self", "value"] ["self", "value"] (defScope s_init) := ⟨rfl, rfl, rfl, by decide +kernel, rfl, by decide +kernel, by decide +kernel⟩
theorem init_of {K : PySem.W.Frag} {mg : Str → Option Value} {fI T : Addr} {oc kV doc pm cdv ct : Value} {od an : Option Addr} {osl : Array (Option Value)} {oT : Obj} {nT : Nat}
    (l : K.lookup fI = some ⟨oc, od, .func (PySem.W.fnOf "__init__" "VentError.__init__" (defArgs s_init) (defBody s_init) (defScope s_init) (.ref T) kV doc pm an cdv ct), osl⟩) (hc : PySem.W.codeIn K cdv "VentError.__init__" = true) (hk : PySem.W.keepIn K (.ref fI) = true)
    (hT : K.lookup T = some oT) (hTd : oT.data = .seq #[.none] nT) (ht : PySem.W.typeIn K (.ref fI) = some (.type "function")) : ∀ (P : Program) (w : World) (base : Heap), InitAt P w K mg base fI := fun P w base => by
  have F : FunD K "__init__" "VentError.__init__" (defArgs s_init) (defBody s_init) (defScope s_init) [.non] [] fI (PySem.W.fnOf "__init__" "VentError.__init__" (defArgs s_init) (defBody s_init) (defScope s_init) (.ref T) kV doc pm an cdv ct) :=
    ⟨⟨oc, od, .ref T, kV, doc, pm, an, cdv, ct, osl, rfl, l, hc, .inr ⟨by simp, T, oT, [.none], nT, rfl, hT, hTd, .cons rfl .nil⟩, .inl rfl⟩, hk⟩
  refine ⟨ht, _, ok_vinit F sc_init (by decide +kernel) (by decide +kernel), binds_vinit F fun T kV doc pm an cdv ct us its h1 h2 => ?_⟩
  match us, h1, its, h2 with
  | [_, _], _, [_], _ => exact ⟨_, rfl, rfl⟩
theorem law_of {n : Nat} {w : World} {h : Heap} {K : PySem.W.Frag} {mg : Str → Option Value} (KX : K.In h) (Gn : h.Ns mainGlobals mg) {fa fL c P0 fI C1 C2 C3 : Addr} {oc kV doc pm ct : Value} {an od : Option Addr} {osl : Array (Option Value)}
    (z_all : PySem.W.nsIn K mainGlobals "all" = some none)
    (z_bool : PySem.W.nsIn K mainGlobals "bool" = some none)
    (z_dict : PySem.W.nsIn K mainGlobals "dict" = some none)
    (z_enumerate : PySem.W.nsIn K mainGlobals "enumerate" = some none)
    (z_int : PySem.W.nsIn K mainGlobals "int" = some none)
    (z_isinstance : PySem.W.nsIn K mainGlobals "isinstance" = some none)
    (z_len : PySem.W.nsIn K mainGlobals "len" = some none)
    (z_list : PySem.W.nsIn K mainGlobals "list" = some none)
    (z_min : PySem.W.nsIn K mainGlobals "min" = some none)
    (z_range : PySem.W.nsIn K mainGlobals "range" = some none)
    (z_repr : PySem.W.nsIn K mainGlobals "repr" = some none)
    (z_sorted : PySem.W.nsIn K mainGlobals "sorted" = some none)
    (z_str : PySem.W.nsIn K mainGlobals "str" = some none)
    (z_sum : PySem.W.nsIn K mainGlobals "sum" = some none)
    (z_tuple : PySem.W.nsIn K mainGlobals "tuple" = some none)
    (z_zip : PySem.W.nsIn K mainGlobals "zip" = some none)
    (c_MOST_AIR : ∃ t, PySem.W.nsIn K mainGlobals "MOST_AIR" = some (some (.int 100 t)))
    (c_MOST_DUCTS : ∃ t, PySem.W.nsIn K mainGlobals "MOST_DUCTS" = some (some (.int 30 t)))
    (c_MOST_JUNCTION : ∃ t, PySem.W.nsIn K mainGlobals "MOST_JUNCTION" = some (some (.int 9 t)))
    (d_is_integer : DA K "is_integer" s_is_integer)
    (d_is_within : DA K "is_within" s_is_within)
    (d_is_row : DA K "is_row" s_is_row)
    (d_is_tuple_of : DA K "is_tuple_of" s_is_tuple_of)
    (d_check_ducts : DA K "check_ducts" s_check_ducts)
    (d_check_ends : DA K "check_ends" s_check_ends)
    (d_reach : DA K "reach" s_reach)
    (d_told_flows : DA K "told_flows" s_told_flows)
    (d_most_air : DA K "most_air" s_most_air)
    (d_narrow : DA K "narrow" s_narrow)
    (d_let_through : DA K "let_through" s_let_through)
    (d__law_taken : DA K "_law_taken" s__law_taken)
    (d__law_pick : DA K "_law_pick" s__law_pick)
    (d__law_alike : DA K "_law_alike" s__law_alike)
    (d__law_unlike : DA K "_law_unlike" s__law_unlike)
    (d__law_subsets : DA K "_law_subsets" s__law_subsets)
    (d__law_through : DA K "_law_through" s__law_through)
    (d__law_refused : DA K "_law_refused" s__law_refused)
    (init : ∀ (P : Program) (w : World) (base : Heap), InitAt P w K mg base fI)
    (e_BadJunction : EA K fI "BadJunction" C1)
    (e_BadDucts : EA K fI "BadDucts" C2)
    (e_BadSide : EA K fI "BadSide" C3)
    (x_C2_C2 : PySem.W.exmOne K (.ref C2) (.ref C2) = some true)
    (x_C2_C1 : PySem.W.exmOne K (.ref C2) (.ref C1) = some false)
    (x_C2_C3 : PySem.W.exmOne K (.ref C2) (.ref C3) = some false)
    (x_C1_C2 : PySem.W.exmOne K (.ref C1) (.ref C2) = some false)
    (x_C1_C1 : PySem.W.exmOne K (.ref C1) (.ref C1) = some true)
    (x_C1_C3 : PySem.W.exmOne K (.ref C1) (.ref C3) = some false)
    (x_C3_C2 : PySem.W.exmOne K (.ref C3) (.ref C2) = some false)
    (x_C3_C1 : PySem.W.exmOne K (.ref C3) (.ref C1) = some false)
    (x_C3_C3 : PySem.W.exmOne K (.ref C3) (.ref C3) = some true)
    (nD : [C1, C2, C3].Nodup)
    (hmg : mg "law" = some (.ref fa)) (a1 : PySem.W.nsIn K mainGlobals "law" = some (some (.ref fL))) (lk : K.lookup fL = some ⟨oc, od, .func (PySem.W.fnOf "law" "law" (defArgs s_law) (defBody s_law) (defScope s_law) .none kV doc pm an (.ref c) ct), osl⟩) (hcd : PySem.W.codeIn K (.ref c) "law" = true) {ocT : Value} {odT : Option Addr} {oslT : Array (Option Value)} {vs : Array Value} (lc : K.lookup c = some ⟨ocT, odT, .fields vs, oslT⟩) (h11 : (vs[11]? : Option Value) = some (.ref P0)) (nP : K.lookup P0 = none) :
    ∃ st N k c P q0 G body, LawV PySem.Challenge.rw_ventways_k16_whole_ducts w K mg fa n st N k c P q0 G body := by
  obtain ⟨f0, fd0, n0, F0⟩ := d_is_integer
  obtain ⟨f1, fd1, n1, F1⟩ := d_is_within
  obtain ⟨f2, fd2, n2, F2⟩ := d_is_row
  obtain ⟨f3, fd3, n3, F3⟩ := d_is_tuple_of
  obtain ⟨f4, fd4, n4, F4⟩ := d_check_ducts
  obtain ⟨f5, fd5, n5, F5⟩ := d_check_ends
  obtain ⟨f6, fd6, n6, F6⟩ := d_reach
  obtain ⟨f7, fd7, n7, F7⟩ := d_told_flows
  obtain ⟨f8, fd8, n8, F8⟩ := d_most_air
  obtain ⟨f9, fd9, n9, F9⟩ := d_narrow
  obtain ⟨f10, fd10, n10, F10⟩ := d_let_through
  obtain ⟨f11, fd11, n11, F11⟩ := d__law_taken
  obtain ⟨f12, fd12, n12, F12⟩ := d__law_pick
  obtain ⟨f13, fd13, n13, F13⟩ := d__law_alike
  obtain ⟨f14, fd14, n14, F14⟩ := d__law_unlike
  obtain ⟨f15, fd15, n15, F15⟩ := d__law_subsets
  obtain ⟨f16, fd16, n16, F16⟩ := d__law_through
  obtain ⟨f17, fd17, n17, F17⟩ := d__law_refused
  have ht : PySem.W.tabIn K "law" = some (c, P0) := by
    unfold PySem.W.tabIn
    rw [a1]
    simp only [lk]
    simp only [lc, h11]
  have ef : fa = fL := by
    have := (PySem.W.mg_of KX Gn a1).symm.trans hmg
    cases this; rfl
  subst ef
  let G : Gm := ⟨K, caOf [(1, C1), (2, C2), (3, C3)], fun _ => ["value"], fun i => match i with | 0 => f0 | 1 => f1 | 2 => f2 | 3 => f3 | 4 => f4 | 5 => f5 | 6 => f6 | 7 => f7 | 8 => f8 | 9 => f9 | 10 => f10 | 11 => f11 | 12 => f12 | 13 => f13 | 14 => f14 | 15 => f15 | 16 => f16 | 17 => f17 | _ => 0, [(P0, ("law.<locals>.<lambda>" : Str))]⟩
  let fd : Nat → FuncData := fun i => match i with | 0 => fd0 | 1 => fd1 | 2 => fd2 | 3 => fd3 | 4 => fd4 | 5 => fd5 | 6 => fd6 | 7 => fd7 | 8 => fd8 | 9 => fd9 | 10 => fd10 | 11 => fd11 | 12 => fd12 | 13 => fd13 | 14 => fd14 | 15 => fd15 | 16 => fd16 | 17 => fd17 | _ => fd0
  have T : Tx K mg G fd fI P0 := {
    GK := rfl, GT := rfl
    z_all := PySem.W.mg_none_of KX Gn z_all
    z_bool := PySem.W.mg_none_of KX Gn z_bool
    z_dict := PySem.W.mg_none_of KX Gn z_dict
    z_enumerate := PySem.W.mg_none_of KX Gn z_enumerate
    z_int := PySem.W.mg_none_of KX Gn z_int
    z_isinstance := PySem.W.mg_none_of KX Gn z_isinstance
    z_len := PySem.W.mg_none_of KX Gn z_len
    z_list := PySem.W.mg_none_of KX Gn z_list
    z_min := PySem.W.mg_none_of KX Gn z_min
    z_range := PySem.W.mg_none_of KX Gn z_range
    z_repr := PySem.W.mg_none_of KX Gn z_repr
    z_sorted := PySem.W.mg_none_of KX Gn z_sorted
    z_str := PySem.W.mg_none_of KX Gn z_str
    z_sum := PySem.W.mg_none_of KX Gn z_sum
    z_tuple := PySem.W.mg_none_of KX Gn z_tuple
    z_zip := PySem.W.mg_none_of KX Gn z_zip
    c_MOST_AIR := by obtain ⟨t, e⟩ := c_MOST_AIR; exact ⟨t, PySem.W.mg_of KX Gn e⟩
    c_MOST_DUCTS := by obtain ⟨t, e⟩ := c_MOST_DUCTS; exact ⟨t, PySem.W.mg_of KX Gn e⟩
    c_MOST_JUNCTION := by obtain ⟨t, e⟩ := c_MOST_JUNCTION; exact ⟨t, PySem.W.mg_of KX Gn e⟩
    m_is_integer := PySem.W.mg_of KX Gn n0
    F_is_integer := F0
    B_is_integer := F0.binds fun _ _ _ _ _ _ us hl => match us, hl with | [_], _ => rfl
    m_is_within := PySem.W.mg_of KX Gn n1
    F_is_within := F1
    B_is_within := F1.binds fun _ _ _ _ _ _ us hl => match us, hl with | [_, _, _], _ => rfl
    m_is_row := PySem.W.mg_of KX Gn n2
    F_is_row := F2
    B_is_row := F2.binds fun _ _ _ _ _ _ us hl => match us, hl with | [_], _ => rfl
    m_is_tuple_of := PySem.W.mg_of KX Gn n3
    F_is_tuple_of := F3
    B_is_tuple_of := F3.binds fun _ _ _ _ _ _ us hl => match us, hl with | [_, _], _ => rfl
    m_check_ducts := PySem.W.mg_of KX Gn n4
    F_check_ducts := F4
    B_check_ducts := F4.binds fun _ _ _ _ _ _ us hl => match us, hl with | [_], _ => rfl
    m_check_ends := PySem.W.mg_of KX Gn n5
    F_check_ends := F5
    B_check_ends := F5.binds fun _ _ _ _ _ _ us hl => match us, hl with | [_, _, _], _ => rfl
    m_reach := PySem.W.mg_of KX Gn n6
    F_reach := F6
    B_reach := F6.binds fun _ _ _ _ _ _ us hl => match us, hl with | [_, _, _], _ => rfl
    m_told_flows := PySem.W.mg_of KX Gn n7
    F_told_flows := F7
    B_told_flows := F7.binds fun _ _ _ _ _ _ us hl => match us, hl with | [_, _, _], _ => rfl
    m_most_air := PySem.W.mg_of KX Gn n8
    F_most_air := F8
    B_most_air := F8.binds fun _ _ _ _ _ _ us hl => match us, hl with | [_, _, _], _ => rfl
    m_narrow := PySem.W.mg_of KX Gn n9
    F_narrow := F9
    B_narrow := F9.binds fun _ _ _ _ _ _ us hl => match us, hl with | [_, _, _], _ => rfl
    m_let_through := PySem.W.mg_of KX Gn n10
    F_let_through := F10
    B_let_through := F10.binds fun _ _ _ _ _ _ us hl => match us, hl with | [_, _], _ => rfl
    m__law_taken := PySem.W.mg_of KX Gn n11
    F__law_taken := F11
    B__law_taken := F11.binds fun _ _ _ _ _ _ us hl => match us, hl with | [_, _], _ => rfl
    m__law_pick := PySem.W.mg_of KX Gn n12
    F__law_pick := F12
    B__law_pick := F12.binds fun _ _ _ _ _ _ us hl => match us, hl with | [_, _], _ => rfl
    m__law_alike := PySem.W.mg_of KX Gn n13
    F__law_alike := F13
    B__law_alike := F13.binds fun _ _ _ _ _ _ us hl => match us, hl with | [_, _], _ => rfl
    m__law_unlike := PySem.W.mg_of KX Gn n14
    F__law_unlike := F14
    B__law_unlike := F14.binds fun _ _ _ _ _ _ us hl => match us, hl with | [_], _ => rfl
    m__law_subsets := PySem.W.mg_of KX Gn n15
    F__law_subsets := F15
    B__law_subsets := F15.binds fun _ _ _ _ _ _ us hl => match us, hl with | [_], _ => rfl
    m__law_through := PySem.W.mg_of KX Gn n16
    F__law_through := F16
    B__law_through := F16.binds fun _ _ _ _ _ _ us hl => match us, hl with | [_, _], _ => rfl
    m__law_refused := PySem.W.mg_of KX Gn n17
    F__law_refused := F17
    B__law_refused := F17.binds fun _ _ _ _ _ _ us hl => match us, hl with | [_], _ => rfl
    x_BadDucts := ⟨e_BadDucts.T, e_BadDucts.i, e_BadDucts.v, PySem.W.mg_of KX Gn e_BadDucts.n, rfl⟩
    x_BadJunction := ⟨e_BadJunction.T, e_BadJunction.i, e_BadJunction.v, PySem.W.mg_of KX Gn e_BadJunction.n, rfl⟩
    x_BadSide := ⟨e_BadSide.T, e_BadSide.i, e_BadSide.v, PySem.W.mg_of KX Gn e_BadSide.n, rfl⟩
    init := init
    inj := fun q hq c e => by
      simp only [List.mem_cons, List.not_mem_nil, or_false] at hq
      rcases hq with rfl | rfl | rfl
      · exact caOf_inj (cs := [(1, C1), (2, C2), (3, C3)]) nD (i := 2) (C := C2) rfl e
      · exact caOf_inj (cs := [(1, C1), (2, C2), (3, C3)]) nD (i := 1) (C := C1) rfl e
      · exact caOf_inj (cs := [(1, C1), (2, C2), (3, C3)]) nD (i := 3) (C := C3) rfl e
    fdv := fun _ _ _ => rfl
    xf_BadDucts := ⟨e_BadDucts.ga, e_BadDucts.gg, e_BadDucts.T.exC, e_BadDucts.hd⟩
    xf_BadJunction := ⟨e_BadJunction.ga, e_BadJunction.gg, e_BadJunction.T.exC, e_BadJunction.hd⟩
    xf_BadSide := ⟨e_BadSide.ga, e_BadSide.gg, e_BadSide.T.exC, e_BadSide.hd⟩
    exm := fun C s e q hq => by
      have e1 := mem_lookup (show ([(C2, ("ducts" : Str)), (C1, ("junction" : Str)), (C3, ("side" : Str))] : List (Addr × Str)).lookup C = some s from e)
      have hq1 : q ∈ ([(C2, ("ducts" : Str)), (C1, ("junction" : Str)), (C3, ("side" : Str))] : List (Addr × Str)) := hq
      have nn := nD
      simp only [List.nodup_cons, List.mem_cons, List.not_mem_nil, or_false, not_or] at nn
      simp only [List.mem_cons, List.not_mem_nil, or_false, Prod.mk.injEq] at e1 hq1
      rcases e1 with ⟨rfl, rfl⟩ | ⟨rfl, rfl⟩ | ⟨rfl, rfl⟩
      · rcases hq1 with rfl | rfl | rfl
        · exact x_C2_C2.trans (by rw [decide_eq_true rfl])
        · exact x_C2_C1.trans (congrArg some (decide_eq_false (by first | (intro z; simp_all; done) | (intro z; subst z; simp at nn))).symm)
        · exact x_C2_C3.trans (congrArg some (decide_eq_false (by first | (intro z; simp_all; done) | (intro z; subst z; simp at nn))).symm)
      · rcases hq1 with rfl | rfl | rfl
        · exact x_C1_C2.trans (congrArg some (decide_eq_false (by first | (intro z; simp_all; done) | (intro z; subst z; simp at nn))).symm)
        · exact x_C1_C1.trans (by rw [decide_eq_true rfl])
        · exact x_C1_C3.trans (congrArg some (decide_eq_false (by first | (intro z; simp_all; done) | (intro z; subst z; simp at nn))).symm)
      · rcases hq1 with rfl | rfl | rfl
        · exact x_C3_C2.trans (congrArg some (decide_eq_false (by first | (intro z; simp_all; done) | (intro z; subst z; simp at nn))).symm)
        · exact x_C3_C1.trans (congrArg some (decide_eq_false (by first | (intro z; simp_all; done) | (intro z; subst z; simp at nn))).symm)
        · exact x_C3_C3.trans (by rw [decide_eq_true rfl])
  }
  exact ⟨s_law, N_law, 9, c, P0, _, G, F_law, {
    lk := ⟨oc, kV, doc, pm, ct, an, od, osl, lk⟩, hcd := hcd, S := sc_law, hb := fun _ _ _ _ _ _ _ => BindsTo.of_eq rfl
    ht := ht, nP := nP, GK := rfl, GT := rfl, hr := ⟨rfl, by decide, by decide⟩
    run := fun base s H kB nB tB vc hgd => run_law T tB vc hgd
    res := fun ns _ _ => law_true ns }⟩
end K16
set_option Elab.async false
set_option maxRecDepth 100000 in
set_option maxHeartbeats 0 in
open PySem PySem.W PyProof.Rows in
theorem PySem.Challenge.cw_ventways_k16_whole_ducts_holds : PySem.Challenge.rw_ventways_k16_whole_ducts.Holds := by
  w_on; o_law; k_head; (case hw => w_witness2)
  k_fill
  refine VL.walk_V (l := PySem.Challenge.rw_ventways_k16_whole_ducts) rfl (by decide) rfl rfl rfl (fun w h Y => PySem.W.km_in_of Y) ?F
  case F =>
    intro w mg fa h KX G hmg
    refine' K16.law_of KX G ?z_all ?z_bool ?z_dict ?z_enumerate ?z_int ?z_isinstance ?z_len ?z_list ?z_min ?z_range ?z_repr ?z_sorted ?z_str ?z_sum ?z_tuple ?z_zip ?c_MOST_AIR ?c_MOST_DUCTS ?c_MOST_JUNCTION ?d_is_integer ?d_is_within ?d_is_row ?d_is_tuple_of ?d_check_ducts ?d_check_ends ?d_reach ?d_told_flows ?d_most_air ?d_narrow ?d_let_through ?d__law_taken ?d__law_pick ?d__law_alike ?d__law_unlike ?d__law_subsets ?d__law_through ?d__law_refused ?ini ?e_BadJunction ?e_BadDucts ?e_BadSide ?x_C2_C2 ?x_C2_C1 ?x_C2_C3 ?x_C1_C2 ?x_C1_C1 ?x_C1_C3 ?x_C3_C2 ?x_C3_C1 ?x_C3_C3 ?nD hmg ?a1 ?lk ?hcd ?lc ?h11 ?nP
    (case z_all => k_is)
    (case z_bool => k_is)
    (case z_dict => k_is)
    (case z_enumerate => k_is)
    (case z_int => k_is)
    (case z_isinstance => k_is)
    (case z_len => k_is)
    (case z_list => k_is)
    (case z_min => k_is)
    (case z_range => k_is)
    (case z_repr => k_is)
    (case z_sorted => k_is)
    (case z_str => k_is)
    (case z_sum => k_is)
    (case z_tuple => k_is)
    (case z_zip => k_is)
    (case c_MOST_AIR => exact ⟨_, by k_is⟩)
    (case c_MOST_DUCTS => exact ⟨_, by k_is⟩)
    (case c_MOST_JUNCTION => exact ⟨_, by k_is⟩)
    (case d_is_integer => exact ⟨_, _, by k_is, L2.fun_mk (by k_is) (by k_is) (by k_is)⟩)
    (case d_is_within => exact ⟨_, _, by k_is, L2.fun_mk (by k_is) (by k_is) (by k_is)⟩)
    (case d_is_row => exact ⟨_, _, by k_is, L2.fun_mk (by k_is) (by k_is) (by k_is)⟩)
    (case d_is_tuple_of => exact ⟨_, _, by k_is, L2.fun_mk (by k_is) (by k_is) (by k_is)⟩)
    (case d_check_ducts => exact ⟨_, _, by k_is, L2.fun_mk (by k_is) (by k_is) (by k_is)⟩)
    (case d_check_ends => exact ⟨_, _, by k_is, L2.fun_mk (by k_is) (by k_is) (by k_is)⟩)
    (case d_reach => exact ⟨_, _, by k_is, L2.fun_mk (by k_is) (by k_is) (by k_is)⟩)
    (case d_told_flows => exact ⟨_, _, by k_is, L2.fun_mk (by k_is) (by k_is) (by k_is)⟩)
    (case d_most_air => exact ⟨_, _, by k_is, L2.fun_mk (by k_is) (by k_is) (by k_is)⟩)
    (case d_narrow => exact ⟨_, _, by k_is, L2.fun_mk (by k_is) (by k_is) (by k_is)⟩)
    (case d_let_through => exact ⟨_, _, by k_is, L2.fun_mk (by k_is) (by k_is) (by k_is)⟩)
    (case d__law_taken => exact ⟨_, _, by k_is, L2.fun_mk (by k_is) (by k_is) (by k_is)⟩)
    (case d__law_pick => exact ⟨_, _, by k_is, L2.fun_mk (by k_is) (by k_is) (by k_is)⟩)
    (case d__law_alike => exact ⟨_, _, by k_is, L2.fun_mk (by k_is) (by k_is) (by k_is)⟩)
    (case d__law_unlike => exact ⟨_, _, by k_is, L2.fun_mk (by k_is) (by k_is) (by k_is)⟩)
    (case d__law_subsets => exact ⟨_, _, by k_is, L2.fun_mk (by k_is) (by k_is) (by k_is)⟩)
    (case d__law_through => exact ⟨_, _, by k_is, L2.fun_mk (by k_is) (by k_is) (by k_is)⟩)
    (case d__law_refused => exact ⟨_, _, by k_is, L2.fun_mk (by k_is) (by k_is) (by k_is)⟩)
    (case e_BadJunction => exact ⟨by k_is, by k_is, by k_is, ⟨⟨_, _, _, _, _, _, _, _, _, _, _, _, _, _, _, by k_is, rfl⟩, by k_is, by k_is, by k_is, by k_is⟩, by k_is, by k_is, by k_is⟩)
    (case e_BadDucts => exact ⟨by k_is, by k_is, by k_is, ⟨⟨_, _, _, _, _, _, _, _, _, _, _, _, _, _, _, by k_is, rfl⟩, by k_is, by k_is, by k_is, by k_is⟩, by k_is, by k_is, by k_is⟩)
    (case e_BadSide => exact ⟨by k_is, by k_is, by k_is, ⟨⟨_, _, _, _, _, _, _, _, _, _, _, _, _, _, _, by k_is, rfl⟩, by k_is, by k_is, by k_is, by k_is⟩, by k_is, by k_is, by k_is⟩)
    (case ini => exact K16.init_of (by k_is) (by k_is) (by k_is) (by k_is) rfl (by k_is))
    (case x_C2_C2 => first | k_is | rfl | kernel_rfl | (unfold exmOne; rfl))
    (case x_C2_C1 => first | k_is | rfl | kernel_rfl | (unfold exmOne; rfl))
    (case x_C2_C3 => first | k_is | rfl | kernel_rfl | (unfold exmOne; rfl))
    (case x_C1_C2 => first | k_is | rfl | kernel_rfl | (unfold exmOne; rfl))
    (case x_C1_C1 => first | k_is | rfl | kernel_rfl | (unfold exmOne; rfl))
    (case x_C1_C3 => first | k_is | rfl | kernel_rfl | (unfold exmOne; rfl))
    (case x_C3_C2 => first | k_is | rfl | kernel_rfl | (unfold exmOne; rfl))
    (case x_C3_C1 => first | k_is | rfl | kernel_rfl | (unfold exmOne; rfl))
    (case x_C3_C3 => first | k_is | rfl | kernel_rfl | (unfold exmOne; rfl))
    (case nD => decide)
    (case a1 => k_is)
    (case lk => k_is)
    (case hcd => k_is)
    (case lc => k_is)
    (case h11 => rfl)
    (case nP => first | k_is | rfl | kernel_rfl | decide)
