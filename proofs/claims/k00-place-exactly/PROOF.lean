import PyProof.Rows.All
import Wide.All
import OpenK.AllK
import Wide.FinOn
import HandS.ForMost
import HandS.Exc
import HandS.Defaults
import HandS.Deep
import HandS.Style
import HandS.TupAny
import HandS.TupLe
import HandS.IsInst
import HandS.Flow
import HandS.HotCalls
import HandS.HeadWalk
import HandS.Walk
import PyProof.Rows.SeqGen
import PyProof.FactsAll.str_8
import PyProof.FactsAll.str_3
import PyProof.FactsAll.str_0
import PyProof.FactsAll.list_3
import PyProof.FactsAll.list_0
import PyProof.Rows.FactsN_isinstance
import HandS.Head0
import HandS.Head1
import HandS.Head2
import HandS.HeadEnd
import HandS.HeadHook1
import HandS.HeadHook2
import PySem.Challenge.RW_keepsapart_k00_place_exactly
set_option Elab.async false
set_option linter.all false
set_option maxRecDepth 100000
namespace PI
open PySem

/-- pure data: what never changes any more -/
inductive D where
  | non | bl (b : Bool) | int (i : Int) | str (s : List Nat)
  | tup (xs : List D) | lst (xs : List D) | dct (kvs : List (D × D)) | ins (C : Nat) (fs : List (Nat × D))
deriving Inhabited

/-- a value: data, a place of the logical heap, a caught exception -/
inductive V2 where
  | val (d : D) | ref (n : Nat) | exn (C : Nat) (fs : List (Nat × D))
deriving Inhabited

/-- a logical object that may change -/
inductive LO where
  | dead | lst (xs : List D) | dct (kvs : List (D × D)) | ins (C : Nat) (fs : List (Nat × D))
deriving Inhabited

abbrev LH := List LO
abbrev SL := List (Option V2)

/-- how a computation ends -/
inductive R (α : Type) where
  | ok (a : α) (L : LH)
  | exc (C : Nat) (fs : List (Nat × D)) (L : LH)
  | stuck

def R.bind {α β : Type} : R α → (α → LH → R β) → R β
  | .ok a L, f => f a L
  | .exc C fs L, _ => .exc C fs L
  | .stuck, _ => .stuck
@[simp] theorem R.bind_ok {α β : Type} (a : α) (L : LH) (f : α → LH → R β) : (R.ok a L).bind f = f a L := rfl
@[simp] theorem R.bind_exc {α β : Type} (C : Nat) (fs : List (Nat × D)) (L : LH) (f : α → LH → R β) : (R.exc C fs L : R α).bind f = .exc C fs L := rfl
@[simp] theorem R.bind_stuck {α β : Type} (f : α → LH → R β) : (R.stuck : R α).bind f = .stuck := rfl
theorem R.bind_assoc {α β γ : Type} (r : R α) (f : α → LH → R β) (g : β → LH → R γ) : (r.bind f).bind g = r.bind fun a L => (f a L).bind g := by cases r <;> rfl

/-- an option as a computation -/
def R.opt {α : Type} (o : Option α) (L : LH) : R α := match o with
  | some a => .ok a L
  | none => .stuck
@[simp] theorem R.opt_some {α : Type} (a : α) (L : LH) : R.opt (some a) L = .ok a L := rfl
@[simp] theorem R.opt_none {α : Type} (L : LH) : (R.opt none L : R α) = .stuck := rfl

mutual
def D.py : D → PyData
  | .non => .none
  | .bl b => .bool b
  | .int i => .int i
  | .str s => .str ⟨s.toArray⟩
  | .tup xs => .tuple (D.pys xs)
  | .lst xs => .list (D.pys xs)
  | .dct _ => .dict []
  | .ins _ _ => .dict []
def D.pys : List D → List PyData
  | [] => []
  | x :: xs => x.py :: D.pys xs
end
mutual
/-- plain data, at most n deep -/
def D.okd : Nat → D → Bool
  | _, .non => true
  | _, .bl _ => true
  | _, .int _ => true
  | _, .str _ => true
  | 0, .tup _ => false
  | 0, .lst _ => false
  | n + 1, .tup xs => D.okds n xs
  | n + 1, .lst xs => D.okds n xs
  | _, .dct _ => false
  | _, .ins _ _ => false
def D.okds : Nat → List D → Bool
  | _, [] => true
  | n, x :: xs => D.okd n x && D.okds n xs
end
mutual
/-- plain data -/
def okd' : D → Bool
  | .tup xs => okds' xs
  | .lst xs => okds' xs
  | .dct _ => false
  | .ins _ _ => false
  | _ => true
def okds' : List D → Bool
  | [] => true
  | x :: xs => okd' x && okds' xs
end
mutual
/-- Python's == -/
def D.eqv : D → D → Bool
  | .non, .non => true
  | .bl a, .bl b => a == b
  | .bl a, .int j => (if a then 1 else 0) == j
  | .int i, .bl b => i == (if b then 1 else 0)
  | .int i, .int j => i == j
  | .str x, .str y => x == y
  | .lst xs, .lst ys => D.eqvs xs ys
  | .tup xs, .tup ys => D.eqvs xs ys
  | _, _ => false
def D.eqvs : List D → List D → Bool
  | [], [] => true
  | x :: xs, y :: ys => D.eqv x y && D.eqvs xs ys
  | _, _ => false
end

/-- a value as data (a list that may change: as it is now) -/
def V2.view (L : LH) : V2 → Option D
  | .val d => some d
  | .ref n => match L[n]? with
    | some (.lst xs) => some (.lst xs)
    | _ => none
  | .exn _ _ => none
def V2.lst? (L : LH) : V2 → Option (List D)
  | .val (.lst xs) => some xs
  | .ref n => match L[n]? with
    | some (.lst xs) => some xs
    | _ => none
  | _ => none
def V2.seq? (L : LH) : V2 → Option (List D)
  | .val (.lst xs) => some xs
  | .val (.tup xs) => some xs
  | .ref n => match L[n]? with
    | some (.lst xs) => some xs
    | _ => none
  | _ => none
def V2.dct? (L : LH) : V2 → Option (List (D × D))
  | .val (.dct kvs) => some kvs
  | .ref n => match L[n]? with
    | some (.dct kvs) => some kvs
    | _ => none
  | _ => none
def V2.int? : V2 → Option Int
  | .val (.int i) => some i
  | _ => none
def V2.str? : V2 → Option (List Nat)
  | .val (.str s) => some s
  | _ => none
def V2.dat? : V2 → Option D
  | .val d => some d
  | _ => none
def dats : List V2 → Option (List D)
  | [] => some []
  | .val x :: r => (dats r).map (x :: ·)
  | _ => none
/-- truth -/
def D.truth : D → Option Bool
  | .non => some false
  | .bl b => some b
  | .int i => some (i != 0)
  | .str s => some (!s.isEmpty)
  | .tup xs => some (!xs.isEmpty)
  | .lst xs => some (!xs.isEmpty)
  | .dct kvs => some (!kvs.isEmpty)
  | .ins _ _ => none
def V2.truth (L : LH) : V2 → Option Bool
  | .val d => d.truth
  | .ref n => match L[n]? with
    | some (.lst xs) => some (!xs.isEmpty)
    | some (.dct kvs) => some (!kvs.isEmpty)
    | _ => none
  | .exn _ _ => none

/-- the longest list, text -/
abbrev lim : Nat := 16777216
/-- a new list -/
def newL (own : Bool) (xs : List D) (L : LH) : R V2 :=
  if xs.length ≤ lim then (if own then .ok (.ref L.length) (L ++ [.lst xs]) else .ok (.val (.lst xs)) L) else .stuck
def newT (xs : List D) (L : LH) : R V2 := if xs.length ≤ lim then .ok (.val (.tup xs)) L else .stuck
def newS (s : List Nat) (L : LH) : R V2 := if s.length ≤ lim then .ok (.val (.str s)) L else .stuck

end PI

set_option maxRecDepth 100000
set_option maxHeartbeats 1000000
namespace PI
open PySem PySem.Spec PyProof.Rows L2

/-- the ground: the written part, the classes' places and the names by number -/
structure Gd where
  K : PySem.W.Frag
  cn : Nat → Addr
  nm : Nat → Str
  /-- what somebody else holds: neither read nor written -/
  B : Addr → Prop

/-- a list that is read and that nobody changes -/
def LstAt (K : PySem.W.Frag) (O : Addr → Prop) (H : Hp) (a : Addr) (vs : List V) : Prop := Rd H a (.lst vs) ∧ ¬ O a
def TupAt (K : PySem.W.Frag) (O : Addr → Prop) (H : Hp) (a : Addr) (vs : List V) : Prop := (Rd H a (.tup vs) ∧ ¬ O a) ∨ ((∀ H', SqT K H' a vs))
theorem LstAt.sq {K : PySem.W.Frag} {O : Addr → Prop} {H : Hp} {a : Addr} {vs : List V} (h : LstAt K O H a vs) : SqL K H a vs := .inl h.1
theorem TupAt.sq {K : PySem.W.Frag} {O : Addr → Prop} {H : Hp} {a : Addr} {vs : List V} (h : TupAt K O H a vs) : SqT K H a vs := by
  rcases h with ⟨h, _⟩ | h
  · exact .inl h
  · exact h H
/-- a key of a dict with int and text keys -/
def RK : D → Key → Prop
  | .int i, k => k = .inl i
  | .str s, k => k = .inr ⟨s.toArray⟩ ∧ (∀ c ∈ s, c < 0x110000) ∧ s.length ≤ lim
  | _, _ => False

mutual
/-- the value v is the data d -/
def RD (G : Gd) (O : Addr → Prop) (H : Hp) : D → V → Prop
  | .non, v => v = .non
  | .bl b, v => v = .bl b
  | .int i, v => v = .int i
  | .str s, v => v = .str ⟨s.toArray⟩ ∧ (∀ c ∈ s, c < 0x110000) ∧ s.length ≤ lim
  | .tup xs, v => ∃ a vs, v = .ref a ∧ TupAt G.K O H a vs ∧ RDs G O H xs vs
  | .lst xs, v => ∃ a vs, v = .ref a ∧ LstAt G.K O H a vs ∧ RDs G O H xs vs
  | .dct kvs, v => ∃ a ks, v = .ref a ∧ (H a = some (.dK ks) ∧ ¬ O a) ∧ RDk G O H kvs ks
  | .ins C fs, v => ∃ a dx gs, v = .ref a ∧ (H a = some (.ins (G.cn C) dx gs) ∧ ¬ O a) ∧ RDf G O H fs gs
def RDs (G : Gd) (O : Addr → Prop) (H : Hp) : List D → List V → Prop
  | [], vs => vs = []
  | x :: xs, vs => ∃ v r, vs = v :: r ∧ RD G O H x v ∧ RDs G O H xs r
def RDk (G : Gd) (O : Addr → Prop) (H : Hp) : List (D × D) → List (Key × V) → Prop
  | [], vs => vs = []
  | (k, x) :: xs, vs => ∃ z v r, vs = (z, v) :: r ∧ RK k z ∧ RD G O H x v ∧ RDk G O H xs r
def RDf (G : Gd) (O : Addr → Prop) (H : Hp) : List (Nat × D) → List (Str × V) → Prop
  | [], vs => vs = []
  | (f, x) :: xs, vs => ∃ v r, vs = (G.nm f, v) :: r ∧ RD G O H x v ∧ RDf G O H xs r
end

/-- the steps that a heap takes: what is tracked and not owned stays, what comes to be owned was owned or is new -/
structure Stp (O : Addr → Prop) (H : Hp) (O' : Addr → Prop) (H' : Hp) : Prop where
  keep : ∀ a o, H a = some o → ¬ O a → H' a = some o
  grow : ∀ a, O' a → O a ∨ H a = none
theorem Stp.refl (O : Addr → Prop) (H : Hp) : Stp O H O H := ⟨fun _ _ h _ => h, fun _ h => .inl h⟩
theorem Stp.trans {O O1 O2 : Addr → Prop} {H H1 H2 : Hp} (a : Stp O H O1 H1) (b : Stp O1 H1 O2 H2) : Stp O H O2 H2 := by
  have no1 : ∀ x o, H x = some o → ¬ O x → ¬ O1 x := fun x o h n z => by
    rcases a.grow x z with q | q
    · exact n q
    · rw [h] at q; cases q
  refine ⟨fun x o h n => b.keep x o (a.keep x o h n) (no1 x o h n), fun x z => ?_⟩
  rcases b.grow x z with q | q
  · exact a.grow x q
  · cases e : H x with
    | none => exact .inr rfl
    | some o =>
      by_cases n : O x
      · exact .inl n
      · rw [a.keep x o e n] at q; cases q
theorem Stp.no {O O1 : Addr → Prop} {H H1 : Hp} (a : Stp O H O1 H1) {x : Addr} {o : HO} (h : H x = some o) (n : ¬ O x) : ¬ O1 x := fun z => by
  rcases a.grow x z with q | q
  · exact n q
  · rw [h] at q; cases q
theorem Stp.rd {O O1 : Addr → Prop} {H H1 : Hp} (s : Stp O H O1 H1) {a : Addr} {u : HO} (h : Rd H a u) (n : ¬ O a) : Rd H1 a u ∧ ¬ O1 a := by
  rcases h with h | ⟨o, h⟩
  · exact ⟨.inl (s.keep a _ h n), s.no h n⟩
  · exact ⟨.inr ⟨o, s.keep a _ h n⟩, s.no h n⟩
theorem Stp.lst {K : PySem.W.Frag} {O O1 : Addr → Prop} {H H1 : Hp} (s : Stp O H O1 H1) {a : Addr} {vs : List V} (h : LstAt K O H a vs) : LstAt K O1 H1 a vs := s.rd h.1 h.2
theorem Stp.tup {K : PySem.W.Frag} {O O1 : Addr → Prop} {H H1 : Hp} (s : Stp O H O1 H1) {a : Addr} {vs : List V} (h : TupAt K O H a vs) : TupAt K O1 H1 a vs := by
  rcases h with ⟨h, n⟩ | h
  · exact .inl (s.rd h n)
  · exact .inr h
section
variable {G : Gd} {O O1 : Addr → Prop} {H H1 : Hp}
mutual
theorem RD.go (s : Stp O H O1 H1) : ∀ (d : D) (v : V), RD G O H d v → RD G O1 H1 d v
  | .non, _, h => h
  | .bl _, _, h => h
  | .int _, _, h => h
  | .str _, _, h => h
  | .tup xs, _, h => by
    obtain ⟨a, vs, e, t, r⟩ := h
    exact ⟨a, vs, e, s.tup t, RDs.go s xs vs r⟩
  | .lst xs, _, h => by
    obtain ⟨a, vs, e, t, r⟩ := h
    exact ⟨a, vs, e, s.lst t, RDs.go s xs vs r⟩
  | .dct kvs, _, h => by
    obtain ⟨a, ks, e, ⟨t, n⟩, r⟩ := h
    exact ⟨a, ks, e, ⟨s.keep a _ t n, s.no t n⟩, RDk.go s kvs ks r⟩
  | .ins C fs, _, h => by
    obtain ⟨a, dx, gs, e, ⟨t, n⟩, r⟩ := h
    exact ⟨a, dx, gs, e, ⟨s.keep a _ t n, s.no t n⟩, RDf.go s fs gs r⟩
theorem RDs.go (s : Stp O H O1 H1) : ∀ (ds : List D) (vs : List V), RDs G O H ds vs → RDs G O1 H1 ds vs
  | [], _, h => h
  | x :: xs, _, h => by
    obtain ⟨v, r, e, h1, h2⟩ := h
    exact ⟨v, r, e, RD.go s x v h1, RDs.go s xs r h2⟩
theorem RDk.go (s : Stp O H O1 H1) : ∀ (ds : List (D × D)) (vs : List (Key × V)), RDk G O H ds vs → RDk G O1 H1 ds vs
  | [], _, h => h
  | (k, x) :: xs, _, h => by
    obtain ⟨z, v, r, e, hk, h1, h2⟩ := h
    exact ⟨z, v, r, e, hk, RD.go s x v h1, RDk.go s xs r h2⟩
theorem RDf.go (s : Stp O H O1 H1) : ∀ (ds : List (Nat × D)) (vs : List (Str × V)), RDf G O H ds vs → RDf G O1 H1 ds vs
  | [], _, h => h
  | (k, x) :: xs, _, h => by
    obtain ⟨v, r, e, h1, h2⟩ := h
    exact ⟨v, r, e, RD.go s x v h1, RDf.go s xs r h2⟩
end
end

section
variable {G : Gd} {O : Addr → Prop} {H : Hp}
theorem RDs.len : ∀ {ds : List D} {vs : List V}, RDs G O H ds vs → ds.length = vs.length
  | [], _, h => by cases (show _ = [] from h); rfl
  | x :: xs, _, h => by
    obtain ⟨v, r, e, _, h2⟩ := h
    subst e
    simp [RDs.len h2]
theorem RDs.app : ∀ {ds es : List D} {vs us : List V}, RDs G O H ds vs → RDs G O H es us → RDs G O H (ds ++ es) (vs ++ us)
  | [], _, _, _, h, h' => by cases (show _ = [] from h); exact h'
  | x :: xs, _, _, _, h, h' => by
    obtain ⟨v, r, e, h1, h2⟩ := h
    subst e
    exact ⟨v, r ++ _, rfl, h1, RDs.app h2 h'⟩
theorem RDs.get : ∀ {ds : List D} {vs : List V} {i : Nat} {d : D}, RDs G O H ds vs → ds[i]? = some d → ∃ v, vs[i]? = some v ∧ RD G O H d v
  | [], _, _, _, _, e => by simp at e
  | x :: xs, _, 0, d, h, e => by
    obtain ⟨v, r, rfl, h1, _⟩ := h
    simp at e
    subst e
    exact ⟨v, rfl, h1⟩
  | x :: xs, _, i + 1, d, h, e => by
    obtain ⟨v, r, rfl, _, h2⟩ := h
    obtain ⟨u, h3, h4⟩ := RDs.get (i := i) h2 (by simpa using e)
    exact ⟨u, by simpa using h3, h4⟩
theorem RDs.get' : ∀ {ds : List D} {vs : List V} {i : Nat} {v : V}, RDs G O H ds vs → vs[i]? = some v → ∃ d, ds[i]? = some d ∧ RD G O H d v
  | [], _, _, _, h, e => by cases (show _ = [] from h); simp at e
  | x :: xs, _, 0, w, h, e => by
    obtain ⟨v, r, rfl, h1, _⟩ := h
    simp at e
    subst e
    exact ⟨x, rfl, h1⟩
  | x :: xs, _, i + 1, w, h, e => by
    obtain ⟨v, r, rfl, _, h2⟩ := h
    obtain ⟨u, h3, h4⟩ := RDs.get' (i := i) h2 (by simpa using e)
    exact ⟨u, by simpa using h3, h4⟩
theorem RDs.set : ∀ {ds : List D} {vs : List V} (i : Nat) {d : D} {v : V}, RDs G O H ds vs → RD G O H d v → RDs G O H (ds.set i d) (vs.set i v)
  | [], _, _, _, _, h, _ => by cases (show _ = [] from h); rfl
  | x :: xs, _, 0, d, w, h, q => by
    obtain ⟨v, r, rfl, h1, h2⟩ := h
    exact ⟨w, r, rfl, q, h2⟩
  | x :: xs, _, i + 1, d, w, h, q => by
    obtain ⟨v, r, rfl, h1, h2⟩ := h
    exact ⟨v, r.set i w, rfl, h1, RDs.set i h2 q⟩
theorem RDs.take : ∀ {ds : List D} {vs : List V} (n : Nat), RDs G O H ds vs → RDs G O H (ds.take n) (vs.take n)
  | [], _, _, h => by cases (show _ = [] from h); simp; rfl
  | x :: xs, _, 0, h => rfl
  | x :: xs, _, n + 1, h => by
    obtain ⟨v, r, rfl, h1, h2⟩ := h
    exact ⟨v, r.take n, rfl, h1, RDs.take n h2⟩
theorem RDs.drop : ∀ {ds : List D} {vs : List V} (n : Nat), RDs G O H ds vs → RDs G O H (ds.drop n) (vs.drop n)
  | [], _, _, h => by cases (show _ = [] from h); simp; rfl
  | x :: xs, _, 0, h => h
  | x :: xs, _, n + 1, h => by
    obtain ⟨v, r, rfl, h1, h2⟩ := h
    exact RDs.drop n h2
theorem RDs.rev : ∀ {ds : List D} {vs : List V}, RDs G O H ds vs → RDs G O H ds.reverse vs.reverse
  | [], _, h => by cases (show _ = [] from h); rfl
  | x :: xs, _, h => by
    obtain ⟨v, r, rfl, h1, h2⟩ := h
    rw [List.reverse_cons, List.reverse_cons]
    exact RDs.app (RDs.rev h2) ⟨v, [], rfl, h1, rfl⟩
theorem RDs.one {d : D} {v : V} (h : RD G O H d v) : RDs G O H [d] [v] := ⟨v, [], rfl, h, rfl⟩
theorem RDs.erase : ∀ {ds : List D} {vs : List V} (i : Nat), RDs G O H ds vs → RDs G O H (ds.eraseIdx i) (vs.eraseIdx i)
  | [], _, _, h => by cases (show _ = [] from h); rfl
  | x :: xs, _, 0, h => by
    obtain ⟨v, r, rfl, h1, h2⟩ := h
    exact h2
  | x :: xs, _, i + 1, h => by
    obtain ⟨v, r, rfl, h1, h2⟩ := h
    exact ⟨v, r.eraseIdx i, rfl, h1, RDs.erase i h2⟩
theorem RDs.cut {ds : List D} {vs : List V} (h : RDs G O H ds vs) (lo hi : Option Int) : RDs G O H ((ds.drop (HT.sIx ds.length 0 lo)).take (HT.sIx ds.length ds.length hi - HT.sIx ds.length 0 lo)) (cutV vs lo hi) := by
  unfold cutV
  rw [h.len]
  exact (h.drop _).take _
end

/-- what the logical heap owns -/
def OwnL (φ : List Addr) (L : LH) (a : Addr) : Prop := ∃ i : Nat, ∃ o : LO, L[i]? = some o ∧ o ≠ .dead ∧ φ[i]? = some a
/-- what may change -/
def Own (G : Gd) (φ : List Addr) (L : LH) (a : Addr) : Prop := OwnL φ L a ∨ G.B a
/-- pinned exceptions -/
abbrev Pn := List (Addr × Obj)
/-- a caught exception -/
def RX (G : Gd) (pn : Pn) (O : Addr → Prop) (H : Hp) (C : Nat) (fs : List (Nat × D)) (v : V) : Prop :=
  ∃ (a : Addr) (oe : Obj) (d : Addr) (gs : List (Str × V)), v = .ref a ∧ (a, oe) ∈ pn ∧ Zc (.ref (G.cn C)) (some d) oe ∧ (∃ vs, oe.data = .fields vs) ∧ (H d = some (.xd gs) ∧ ¬ O d) ∧ RDf G O H fs gs
/-- the value v is the value x -/
def RV (G : Gd) (pn : Pn) (φ : List Addr) (O : Addr → Prop) (H : Hp) : V2 → V → Prop
  | .val d, v => RD G O H d v
  | .ref n, v => ∃ a, v = .ref a ∧ φ[n]? = some a
  | .exn C fs, v => RX G pn O H C fs v
/-- the object at a -/
def RO (G : Gd) (O : Addr → Prop) (H : Hp) (a : Addr) : LO → Prop
  | .dead => True
  | .lst xs => ∃ vs, H a = some (.lst vs) ∧ RDs G O H xs vs
  | .dct kvs => ∃ ks, H a = some (.dK ks) ∧ RDk G O H kvs ks
  | .ins C fs => ∃ dx gs, H a = some (.ins (G.cn C) dx gs) ∧ RDf G O H fs gs
structure HR (G : Gd) (φ : List Addr) (L : LH) (H : Hp) : Prop where
  len : φ.length = L.length
  at_ : ∀ (i : Nat) (o : LO) (a : Addr), L[i]? = some o → φ[i]? = some a → RO G (Own G φ L) H a o
  inj : ∀ (i j : Nat) (o p : LO) (a : Addr), L[i]? = some o → o ≠ .dead → L[j]? = some p → p ≠ .dead → φ[i]? = some a → φ[j]? = some a → i = j
  res : ∀ a, G.B a → (∃ o, H a = some o) ∧ ¬ OwnL φ L a
/-- a step of the whole -/
structure Ext (G : Gd) (φ : List Addr) (L : LH) (H : Hp) (φ' : List Addr) (L' : LH) (H' : Hp) : Prop where
  stp : Stp (Own G φ L) H (Own G φ' L') H'
  pre : φ <+: φ'
  held : ∀ a, G.B a → H' a = H a
theorem Ext.refl (G : Gd) (φ : List Addr) (L : LH) (H : Hp) : Ext G φ L H φ L H := ⟨Stp.refl _ _, List.prefix_refl _, fun _ _ => rfl⟩
theorem Ext.trans {G : Gd} {φ φ1 φ2 : List Addr} {L L1 L2 : LH} {H H1 H2 : Hp} (a : Ext G φ L H φ1 L1 H1) (b : Ext G φ1 L1 H1 φ2 L2 H2) : Ext G φ L H φ2 L2 H2 := ⟨a.stp.trans b.stp, a.pre.trans b.pre, fun x h => (b.held x h).trans (a.held x h)⟩
theorem pre_get {φ φ' : List Addr} (h : φ <+: φ') {i : Nat} {a : Addr} (e : φ[i]? = some a) : φ'[i]? = some a := by
  obtain ⟨t, rfl⟩ := h
  rw [List.getElem?_append_left (List.getElem?_eq_some_iff.mp e).1]
  exact e
section
variable {G : Gd} {pn : Pn} {φ φ' : List Addr} {L L' : LH} {H H' : Hp}
theorem RX.go {O O1 : Addr → Prop} {H1 : Hp} (s : Stp O H O1 H1) {C : Nat} {fs : List (Nat × D)} {v : V} (h : RX G pn O H C fs v) : RX G pn O1 H1 C fs v := by
  obtain ⟨a, oe, d, gs, e, hp, hz, hf, ⟨t, n⟩, r⟩ := h
  exact ⟨a, oe, d, gs, e, hp, hz, hf, ⟨s.keep d _ t n, s.no t n⟩, RDf.go s fs gs r⟩
theorem RV.go' {O O1 : Addr → Prop} {H1 : Hp} (s : Stp O H O1 H1) (p : φ <+: φ') : ∀ {x : V2} {v : V}, RV G pn φ O H x v → RV G pn φ' O1 H1 x v
  | .val d, v, h => RD.go s d v h
  | .ref n, v, ⟨a, e, q⟩ => ⟨a, e, pre_get p q⟩
  | .exn C fs, v, h => RX.go s h
theorem RV.go (e : Ext G φ L H φ' L' H') {x : V2} {v : V} (h : RV G pn φ (Own G φ L) H x v) : RV G pn φ' (Own G φ' L') H' x v := RV.go' e.stp e.pre h
theorem RO.go' {O O1 : Addr → Prop} {H1 : Hp} (s : Stp O H O1 H1) {a : Addr} (ha : H1 a = H a) : ∀ {o : LO}, RO G O H a o → RO G O1 H1 a o
  | .dead, _ => trivial
  | .lst xs, ⟨vs, e, r⟩ => ⟨vs, ha.trans e, RDs.go s xs vs r⟩
  | .dct kvs, ⟨ks, e, r⟩ => ⟨ks, ha.trans e, RDk.go s kvs ks r⟩
  | .ins C fs, ⟨dx, gs, e, r⟩ => ⟨dx, gs, ha.trans e, RDf.go s fs gs r⟩
theorem RO.there {O : Addr → Prop} {a : Addr} : ∀ {o : LO}, RO G O H a o → o ≠ .dead → ∃ u, H a = some u ∧ Mut (some u)
  | .dead, _, h => absurd rfl h
  | .lst xs, ⟨vs, e, r⟩, _ => ⟨_, e, trivial⟩
  | .dct kvs, ⟨ks, e, r⟩, _ => ⟨_, e, trivial⟩
  | .ins C fs, ⟨dx, gs, e, r⟩, _ => ⟨_, e, trivial⟩
theorem HR.own (h : HR G φ L H) {a : Addr} (o : Own G φ L a) : ∃ u, H a = some u := by
  rcases o with ⟨i, o, e1, e2, e3⟩ | o
  · obtain ⟨u, hu, _⟩ := RO.there (h.at_ i o a e1 e3) e2
    exact ⟨u, hu⟩
  · exact (h.res a o).1
theorem HR.notOwn (h : HR G φ L H) {a : Addr} (n : H a = none) : ¬ Own G φ L a := fun o => by
  obtain ⟨u, e⟩ := h.own o
  rw [n] at e; cases e
theorem HR.notB (h : HR G φ L H) {a : Addr} (n : H a = none) : ¬ G.B a := fun o => h.notOwn n (.inr o)
/-- a new object is laid and nobody owns it -/
theorem HR.lay (h : HR G φ L H) {p : Addr} (n : H p = none) (o : HO) : HR G φ L (upd H p o) ∧ Ext G φ L H φ L (upd H p o) := by
  have s : Stp (Own G φ L) H (Own G φ L) (upd H p o) := ⟨fun a u e _ => by rw [upd_ne (ne_of_none e n)]; exact e, fun _ z => .inl z⟩
  have hb : ∀ a, G.B a → (upd H p o) a = H a := fun a z => upd_ne fun e => h.notB n (by rw [← e]; exact z)
  refine ⟨⟨h.len, fun i u a e1 e2 => ?_, h.inj, fun a z => ⟨by rw [hb a z]; exact (h.res a z).1, (h.res a z).2⟩⟩, s, List.prefix_refl _, hb⟩
  by_cases hd : u = .dead
  · subst hd; trivial
  · have ha : a ≠ p := fun z => by
      obtain ⟨w, hw⟩ := h.own (.inl ⟨i, u, e1, hd, e2⟩)
      rw [z, n] at hw; cases hw
    exact RO.go' s (upd_ne ha) (h.at_ i u a e1 e2)
theorem ownL_app {p a : Addr} {l : LO} (hl : φ.length = L.length) (z : OwnL (φ ++ [p]) (L ++ [l]) a) : OwnL φ L a ∨ a = p := by
  obtain ⟨i, u, e1, e2, e3⟩ := z
  by_cases hi : i < L.length
  · rw [List.getElem?_append_left hi] at e1
    rw [List.getElem?_append_left (by rw [hl]; exact hi)] at e3
    exact .inl ⟨i, u, e1, e2, e3⟩
  · rw [List.getElem?_append_right (by rw [hl]; omega)] at e3
    have hz : i - φ.length = 0 := by
      have := (List.getElem?_eq_some_iff.mp e3).1
      simp at this
      omega
    rw [hz] at e3
    simp at e3
    exact .inr e3.symm
theorem HR.allocStp (h : HR G φ L H) {p : Addr} (n : H p = none) (o : HO) (l : LO) : Stp (Own G φ L) H (Own G (φ ++ [p]) (L ++ [l])) (upd H p o) := by
  refine ⟨fun a u e _ => by rw [upd_ne (ne_of_none e n)]; exact e, fun a z => ?_⟩
  rcases z with z | z
  · rcases ownL_app h.len z with z | z
    · exact .inl (.inl z)
    · rw [z]; exact .inr n
  · exact .inl (.inr z)
theorem ownL_set {n : Nat} {a x : Addr} {l l' : LO} (e1 : L[n]? = some l) (hd : l ≠ .dead) (e2 : φ[n]? = some a) (z : OwnL φ (L.set n l') x) : OwnL φ L x := by
  obtain ⟨i, u, q1, q2, q3⟩ := z
  by_cases hi : i = n
  · subst hi
    rw [e2] at q3
    cases q3
    exact ⟨i, l, e1, hd, e2⟩
  · rw [List.getElem?_set_ne (Ne.symm hi)] at q1
    exact ⟨i, u, q1, q2, q3⟩
theorem HR.putStp (h : HR G φ L H) {n : Nat} {a : Addr} {l : LO} (e1 : L[n]? = some l) (hd : l ≠ .dead) (e2 : φ[n]? = some a) (o : HO) (l' : LO) : Stp (Own G φ L) H (Own G φ (L.set n l')) (upd H a o) := by
  have oa : Own G φ L a := .inl ⟨n, l, e1, hd, e2⟩
  refine ⟨fun x u e no => by rw [upd_ne (fun z => no (by rw [z]; exact oa))]; exact e, fun x z => .inl ?_⟩
  rcases z with z | z
  · exact .inl (ownL_set e1 hd e2 z)
  · exact .inr z
/-- a new object is laid and owned -/
theorem HR.alloc (h : HR G φ L H) {p : Addr} (n : H p = none) (o : HO) (l : LO) (hl : l ≠ .dead) (r : RO G (Own G (φ ++ [p]) (L ++ [l])) (upd H p o) p l) :
    HR G (φ ++ [p]) (L ++ [l]) (upd H p o) ∧ Ext G φ L H (φ ++ [p]) (L ++ [l]) (upd H p o) ∧ (φ ++ [p])[L.length]? = some p := by
  have hlast : (φ ++ [p])[L.length]? = some p := by
    rw [← h.len, List.getElem?_append_right (Nat.le_refl _)]
    simp
  have s := h.allocStp n o l
  have pr : φ <+: φ ++ [p] := List.prefix_append _ _
  have hb : ∀ a, G.B a → (upd H p o) a = H a := fun a z => upd_ne fun e => h.notB n (by rw [← e]; exact z)
  refine ⟨⟨by simp [h.len], fun i u a e1 e2 => ?_, fun i j u w a e1 d1 e2 d2 e3 e4 => ?_, fun a z => ⟨by rw [hb a z]; exact (h.res a z).1, fun q => ?_⟩⟩, ⟨s, pr, hb⟩, hlast⟩
  · by_cases hi : i < L.length
    · rw [List.getElem?_append_left hi] at e1
      rw [List.getElem?_append_left (by rw [h.len]; exact hi)] at e2
      by_cases hd : u = .dead
      · subst hd; trivial
      · have ha : a ≠ p := fun z => by
          obtain ⟨w, hw⟩ := h.own (.inl ⟨i, u, e1, hd, e2⟩)
          rw [z, n] at hw; cases hw
        exact RO.go' s (upd_ne ha) (h.at_ i u a e1 e2)
    · have hi' : i = L.length := by
        have := (List.getElem?_eq_some_iff.mp e1).1
        simp at this
        omega
      subst hi'
      rw [hlast] at e2
      cases e2
      rw [List.getElem?_append_right (Nat.le_refl _)] at e1
      simp at e1
      subst e1
      exact r
  · have old : ∀ {i : Nat} {u : LO}, (L ++ [l])[i]? = some u → u ≠ .dead → (φ ++ [p])[i]? = some a → (i < L.length ∧ L[i]? = some u ∧ φ[i]? = some a) ∨ (i = L.length ∧ a = p) := fun {i u} e1 d e3 => by
      by_cases hi : i < L.length
      · rw [List.getElem?_append_left hi] at e1
        rw [List.getElem?_append_left (by rw [h.len]; exact hi)] at e3
        exact .inl ⟨hi, e1, e3⟩
      · have hi' : i = L.length := by
          have := (List.getElem?_eq_some_iff.mp e1).1
          simp at this
          omega
        subst hi'
        rw [hlast] at e3
        cases e3
        exact .inr ⟨rfl, rfl⟩
    rcases old e1 d1 e3 with ⟨a1, a2, a3⟩ | ⟨a1, a2⟩
    · rcases old e2 d2 e4 with ⟨b1, b2, b3⟩ | ⟨b1, b2⟩
      · exact h.inj i j u w a a2 d1 b2 d2 a3 b3
      · obtain ⟨x, hx⟩ := h.own (.inl ⟨i, u, a2, d1, a3⟩)
        rw [b2, n] at hx; cases hx
    · rcases old e2 d2 e4 with ⟨b1, b2, b3⟩ | ⟨b1, b2⟩
      · obtain ⟨x, hx⟩ := h.own (.inl ⟨j, w, b2, d2, b3⟩)
        rw [a2, n] at hx; cases hx
      · omega
  · rcases ownL_app h.len q with q | q
    · exact (h.res a z).2 q
    · rw [q] at z; exact h.notB n z
/-- an owned object is changed -/
theorem HR.put (h : HR G φ L H) {n : Nat} {a : Addr} {l l' : LO} (e1 : L[n]? = some l) (hd : l ≠ .dead) (e2 : φ[n]? = some a) (o : HO) (hl : l' ≠ .dead) (r : RO G (Own G φ (L.set n l')) (upd H a o) a l') :
    HR G φ (L.set n l') (upd H a o) ∧ Ext G φ L H φ (L.set n l') (upd H a o) := by
  have hn : n < L.length := (List.getElem?_eq_some_iff.mp e1).1
  have s := h.putStp e1 hd e2 o l'
  have nb : ¬ G.B a := fun z => (h.res a z).2 ⟨n, l, e1, hd, e2⟩
  have hb : ∀ x, G.B x → (upd H a o) x = H x := fun x z => upd_ne fun e => nb (by rw [← e]; exact z)
  refine ⟨⟨by simp [h.len], fun i u x q1 q2 => ?_, fun i j u w x q1 d1 q2 d2 q3 q4 => ?_, fun x z => ⟨by rw [hb x z]; exact (h.res x z).1, fun q => (h.res x z).2 (ownL_set e1 hd e2 q)⟩⟩, s, List.prefix_refl _, hb⟩
  · by_cases hi : i = n
    · subst hi
      rw [e2] at q2
      cases q2
      rw [List.getElem?_set_self hn] at q1
      cases q1
      exact r
    · rw [List.getElem?_set_ne (Ne.symm hi)] at q1
      by_cases hu : u = .dead
      · subst hu; trivial
      · have hx : x ≠ a := fun z => hi (h.inj i n u l a q1 hu e1 hd (by rw [← z]; exact q2) e2)
        exact RO.go' s (upd_ne hx) (h.at_ i u x q1 q2)
  · have old : ∀ {i : Nat} {u : LO}, (L.set n l')[i]? = some u → u ≠ .dead → ∃ u', L[i]? = some u' ∧ u' ≠ .dead := fun {i u} q d => by
      by_cases hi : i = n
      · subst hi; exact ⟨l, e1, hd⟩
      · rw [List.getElem?_set_ne (Ne.symm hi)] at q
        exact ⟨u, q, d⟩
    obtain ⟨u', a1, a2⟩ := old q1 d1
    obtain ⟨w', b1, b2⟩ := old q2 d2
    exact h.inj i j u' w' x a1 a2 b1 b2 q3 q4
/-- an owned object is let go -/
theorem HR.kill (h : HR G φ L H) {n : Nat} {l : LO} (e1 : L[n]? = some l) (hd : l ≠ .dead) : HR G φ (L.set n .dead) H ∧ Ext G φ L H φ (L.set n .dead) H ∧ ∀ a, φ[n]? = some a → ¬ Own G φ (L.set n .dead) a := by
  have old : ∀ {i : Nat} {u : LO}, (L.set n .dead)[i]? = some u → u ≠ .dead → L[i]? = some u ∧ i ≠ n := fun {i u} q d => by
    by_cases hi : i = n
    · subst hi
      by_cases hl : i < L.length
      · rw [List.getElem?_set_self hl] at q
        cases q
        exact absurd rfl d
      · rw [List.getElem?_eq_none (by simpa using hl)] at q; cases q
    · rw [List.getElem?_set_ne (Ne.symm hi)] at q
      exact ⟨q, hi⟩
  have ow : ∀ x, OwnL φ (L.set n .dead) x → OwnL φ L x := fun x ⟨i, u, q1, q2, q3⟩ => ⟨i, u, (old q1 q2).1, q2, q3⟩
  have s : Stp (Own G φ L) H (Own G φ (L.set n .dead)) H := ⟨fun x u e no => e, fun x z => .inl (z.imp (ow x) id)⟩
  refine ⟨⟨by simp [h.len], fun i u x q1 q2 => ?_, fun i j u w x q1 d1 q2 d2 q3 q4 => h.inj i j u w x (old q1 d1).1 d1 (old q2 d2).1 d2 q3 q4, fun x z => ⟨(h.res x z).1, fun q => (h.res x z).2 (ow x q)⟩⟩, ⟨s, List.prefix_refl _, fun _ _ => rfl⟩, fun a ha ho => ?_⟩
  · by_cases hu : u = .dead
    · subst hu; trivial
    · exact RO.go' s rfl (h.at_ i u x (old q1 hu).1 q2)
  · rcases ho with ⟨i, u, q1, q2, q3⟩ | ho
    · obtain ⟨a1, a2⟩ := old q1 q2
      exact a2 (h.inj i n u l a a1 q2 e1 hd q3 ha)
    · exact (h.res a ho).2 ⟨n, l, e1, hd, ha⟩
/-- the last ones are let go -/
theorem HR.trunc (h : HR G φ L H) (n : Nat) : HR G (φ.take n) (L.take n) H ∧ Stp (Own G φ L) H (Own G (φ.take n) (L.take n)) H := by
  have old : ∀ {i : Nat} {u : LO}, (L.take n)[i]? = some u → L[i]? = some u := fun {i u} q => by
    rw [List.getElem?_take] at q
    split at q
    · exact q
    · cases q
  have oldA : ∀ {i : Nat} {u : Addr}, (φ.take n)[i]? = some u → φ[i]? = some u := fun {i u} q => by
    rw [List.getElem?_take] at q
    split at q
    · exact q
    · cases q
  have ow : ∀ x, OwnL (φ.take n) (L.take n) x → OwnL φ L x := fun x ⟨i, u, q1, q2, q3⟩ => ⟨i, u, old q1, q2, oldA q3⟩
  have s : Stp (Own G φ L) H (Own G (φ.take n) (L.take n)) H := ⟨fun x u e no => e, fun x z => .inl (z.imp (ow x) id)⟩
  refine ⟨⟨by simp [h.len], fun i u x q1 q2 => RO.go' s rfl (h.at_ i u x (old q1) (oldA q2)), fun i j u w x q1 d1 q2 d2 q3 q4 => h.inj i j u w x (old q1) d1 (old q2) d2 (oldA q3) (oldA q4), fun x z => ⟨(h.res x z).1, fun q => (h.res x z).2 (ow x q)⟩⟩, s⟩
end
end PI

set_option maxRecDepth 100000
namespace PI
open PySem

inductive OpB where | add | sub | mul | fdiv | mod | pow | shl | shr | band | bor
deriving DecidableEq
inductive OpC where | eq | ne | lt | le | gt | ge | is | isNot | in_ | notIn
deriving DecidableEq
inductive BI where | len | int | all | any | sorted | list | tuple | sum | abs | min | max | repr | set | str | dict
deriving DecidableEq
inductive MI where | lAppend | lInsert | lPop | lPopAt | lIndex | lCount | lExtend | lReverse | lClear | lRemove | lCopy
  | sUpper | sCount | sFind | sJoin | sSplit | sIslower | sIsalpha | sReplace | sStartswith | sRstrip | sIndex | sPartition | dGet | dKeys
deriving DecidableEq
/-- what a handled exception forbids -/
def BI.calm : BI → Bool
  | .len => false
  | .int => false
  | .list => false
  | .tuple => false
  | _ => true
/-- classes that isinstance asks -/
inductive IC where | ty (n : String) | own (C : Nat)
/-- what a for walks -/
inductive IK where | over | range | enum | zip | revd
deriving DecidableEq
/-- where a for stores -/
inductive ITg where | nm (i : Nat) | tp (is : List Nat)

inductive IE where
  | c (d : D) | v (i : Nat) | g (x : Nat)
  | tup (es : List IE) | lst (own : Bool) (es : List IE)
  | bin (op : OpB) (own : Bool) (a b : IE) | neg (a : IE)
  | cmp (op : OpC) (a b : IE) | chain (o1 o2 : OpC) (a b c : IE)
  | and (a b : IE) | or (a b : IE) | not (a : IE) | ife (t a b : IE)
  | sub (a i : IE) | slice (own : Bool) (a : IE) (lo hi : Option IE) | rev (own : Bool) (a : IE)
  | call (own : Bool) (f : Nat) (es : List IE) (ks : List (Nat × IE))
  | bi (own : Bool) (b : BI) (es : List IE)
  | isi (e : IE) (cs : List IC)
  | comp (own : Bool) (elt : IE) (tg : ITg) (k : IK) (it : List IE) (ts : List IE)
  | meth (own : Bool) (m : MI) (e : IE) (es : List IE)

inductive IS where
  | set (i : Nat) (e : IE) | unp (is : List Nat) (e : IE) | put (o i e : IE) | aug (i : Nat) (op : OpB) (e : IE)
  | ex (e : IE) | ret (e : Option IE) | ife (t : IE) (a b : List IS)
  | for_ (tg : ITg) (k : IK) (it : List IE) (b : List IS)
  | whl (t : IE) (b : List IS)
  | pass | brk | cont
  | frz (i : Nat)   -- no text: the slot's list is never changed from here on

/-- a small power -/
def powOk (i j : Int) : Bool := decide (0 ≤ j) && decide (j ≤ 1000000) && decide (i.natAbs < 2 ^ 64)
def mulOk (i j : Int) : Bool := (decide (-(2 ^ 64) < i) && decide (i < 2 ^ 64)) || (decide (-(2 ^ 64) < j) && decide (j < 2 ^ 64))
/-- k times -/
def rep {α : Type} (xs : List α) (k : Int) : List α := (List.replicate k.toNat xs).flatten
def binInt (op : OpB) (i j : Int) (L : LH) : R V2 := match op with
  | .add => .ok (.val (.int (i + j))) L
  | .sub => .ok (.val (.int (i - j))) L
  | .mul => if mulOk i j then .ok (.val (.int (i * j))) L else .stuck
  | .fdiv => if 0 < j ∧ j < 1073741824 then .ok (.val (.int (i / j))) L else .stuck
  | .mod => if 0 < j then .ok (.val (.int (i % j))) L else .stuck
  | .pow => if powOk i j then .ok (.val (.int (i ^ j.toNat))) L else .stuck
  | .shl => if powOk i j then .ok (.val (.int (i * 2 ^ j.toNat))) L else .stuck
  | .shr => if 0 ≤ j then .ok (.val (.int (i / 2 ^ j.toNat))) L else .stuck
  | _ => .stuck
def kOk (k : Int) : Bool := decide (-(2 ^ 63) ≤ k) && decide (k < 2 ^ 63)
def binV (op : OpB) (own : Bool) (x y : V2) (L : LH) : R V2 :=
  match x.int?, y.int? with
  | some i, some j => binInt op i j L
  | none, some k => (match op with
    | .mul => (match x with
      | .val (.str s) => if kOk k then newS (rep s k) L else .stuck
      | _ => (match x.lst? L with
        | some xs => if kOk k && decide (xs.length * k.toNat ≤ lim) then newL own (rep xs k) L else .stuck
        | none => .stuck))
    | _ => .stuck)
  | _, _ => (match op with
    | .add => (match x, y with
      | .val (.str s), .val (.str t) => newS (s ++ t) L
      | .val (.tup xs), .val (.tup ys) => newT (xs ++ ys) L
      | _, _ => (match x.lst? L, y.lst? L with
        | some xs, some ys => newL own (xs ++ ys) L
        | _, _ => .stuck))
    | _ => .stuck)
/-- is a text within -/
def strIn (s t : List Nat) : Bool := !(Builtin.Str.occurrences ⟨t.toArray⟩ ⟨s.toArray⟩ 0 t.length 1).isEmpty
/-- order of texts -/
def strLt (s t : List Nat) : Bool := decide (s < t)
def okd (d : D) : Bool := D.okd 60 d
def cmpEq (x y : V2) (L : LH) : Option Bool := match x.view L, y.view L with
  | some a, some b => if okd a && okd b then some (a.eqv b) else none
  | _, _ => none
def cmpInt (op : OpC) (i j : Int) : Option Bool := match op with
  | .lt => some (decide (i < j))
  | .le => some (decide (i ≤ j))
  | .gt => some (decide (j < i))
  | .ge => some (decide (j ≤ i))
  | _ => none
def cmpLt (op : OpC) (x y : V2) : Option Bool := match x, y with
  | .val (.int i), .val (.int j) => cmpInt op i j
  | .val (.str s), .val (.str t) => (match op with
    | .lt => some (strLt s t)
    | _ => none)
  | _, _ => none
def V2.isNon : V2 → Bool
  | .val .non => true
  | _ => false
def V2.isBl (b : Bool) : V2 → Bool
  | .val (.bl a) => a == b
  | _ => false
def cmpIs (x y : V2) : Option Bool := match y with
  | .val .non => some x.isNon
  | .val (.bl b) => some (x.isBl b)
  | _ => none
def inD (x : D) : List D → Bool
  | [] => false
  | y :: r => y.eqv x || inD x r
def cmpIn (x y : V2) (L : LH) : Option Bool := match x.view L, y with
  | some (.str s), .val (.str t) => some (strIn s t)
  | some a, _ => (match y.seq? L with
    | some xs => if okd a && D.okds 59 xs then some (inD a xs) else none
    | none => none)
  | none, _ => none
def cmpV (op : OpC) (x y : V2) (L : LH) : Option Bool := match op with
  | .eq => cmpEq x y L
  | .ne => (cmpEq x y L).map (!·)
  | .is => cmpIs x y
  | .isNot => (cmpIs x y).map (!·)
  | .in_ => cmpIn x y L
  | .notIn => (cmpIn x y L).map (!·)
  | _ => cmpLt op x y
def cmpR (op : OpC) (x y : V2) (L : LH) : R V2 := match cmpV op x y L with
  | some b => .ok (.val (.bl b)) L
  | none => .stuck
def subV (x i : V2) (L : LH) : R V2 := match i.int? with
  | some k => (match x with
    | .val (.str s) => (match L2.atI s k with
      | some c => .ok (.val (.str [c])) L
      | none => .stuck)
    | _ => (match x.seq? L with
      | some xs => (match L2.atI xs k with
        | some d => .ok (.val d) L
        | none => .stuck)
      | none => .stuck))
  | none => .stuck
def cutD {α : Type} (xs : List α) (lo hi : Option Int) : List α := (xs.drop (HT.sIx xs.length 0 lo)).take (HT.sIx xs.length xs.length hi - HT.sIx xs.length 0 lo)
def sliceV (own : Bool) (x : V2) (lo hi : Option Int) (L : LH) : R V2 := match x with
  | .val (.str s) => .ok (.val (.str (cutD s lo hi))) L
  | .val (.tup xs) => .ok (.val (.tup (cutD xs lo hi))) L
  | _ => (match x.lst? L with
    | some xs => newL own (cutD xs lo hi) L
    | none => .stuck)
def revV (own : Bool) (x : V2) (L : LH) : R V2 := match x.lst? L with
  | some xs => newL own xs.reverse L
  | none => .stuck
/-- a list of bools -/
def bools : List D → Option (List Bool)
  | [] => some []
  | .bl b :: r => (bools r).map (b :: ·)
  | _ => none
def biV (own : Bool) (b : BI) (xs : List V2) (L : LH) : R V2 := match b, xs with
  | .len, [x] => (match x with
    | .val (.str s) => .ok (.val (.int s.length)) L
    | _ => (match x.seq? L with
      | some ys => .ok (.val (.int ys.length)) L
      | none => .stuck))
  | .int, [x] => (match x with
    | .val (.int i) => .ok (.val (.int i)) L
    | _ => .stuck)
  | .all, [x] => (match (x.lst? L).bind bools with
    | some bs => .ok (.val (.bl (bs.all id))) L
    | none => .stuck)
  | .any, [x] => (match (x.lst? L).bind bools with
    | some bs => .ok (.val (.bl (bs.any id))) L
    | none => .stuck)
  | .list, [x] => (match x.seq? L with
    | some ys => newL own ys L
    | none => .stuck)
  | .tuple, [x] => (match x with
    | .val (.tup ys) => .ok (.val (.tup ys)) L
    | _ => (match x.lst? L with
      | some ys => newT ys L
      | none => .stuck))
  | _, _ => .stuck
/-- a value's class -/
inductive TV where | ty (n : String) | own (C : Nat)
def tyOf (L : LH) : V2 → Option TV
  | .val .non => some (.ty "NoneType")
  | .val (.bl _) => some (.ty "bool")
  | .val (.int _) => some (.ty "int")
  | .val (.str _) => some (.ty "str")
  | .val (.tup _) => some (.ty "tuple")
  | .val (.lst _) => some (.ty "list")
  | .val (.dct _) => some (.ty "dict")
  | .val (.ins C _) => some (.own C)
  | .ref m => (match L[m]? with
    | some (.lst _) => some (.ty "list")
    | some (.dct _) => some (.ty "dict")
    | some (.ins C _) => some (.own C)
    | _ => none)
  | .exn _ _ => none
def kits (kit : TV → IC → Option Bool) (t : TV) : List IC → Option Bool
  | [] => some false
  | c :: r => (match kit t c with
    | some true => some true
    | some false => kits kit t r
    | none => none)
def isIC (kit : TV → IC → Option Bool) (L : LH) (x : V2) (cs : List IC) : Option Bool := if cs.isEmpty || decide (100 < cs.length) then none else (tyOf L x).bind fun t => kits kit t cs
def upper (s : List Nat) : List Nat := s.map fun c => if 97 ≤ c ∧ c ≤ 122 then c - 32 else c
/-- a list's change -/
def lstPut (x : V2) (L : LH) (f : List D → Option (List D × D)) : R V2 := match x with
  | .ref n => (match L[n]? with
    | some (.lst xs) => (match f xs with
      | some (ys, d) => .ok (.val d) (L.set n (.lst ys))
      | none => .stuck)
    | _ => .stuck)
  | _ => .stuck
def methV (own : Bool) (m : MI) (x : V2) (xs : List V2) (L : LH) : R V2 := match m, xs with
  | .lAppend, [.val y] => lstPut x L fun ys => if ys.length < lim then some (ys ++ [y], .non) else none
  | .sUpper, [] => (match x with
    | .val (.str s) => if s.all (fun c => decide (c < 128)) && decide (s.length ≤ 5592405) then .ok (.val (.str (upper s))) L else .stuck
    | _ => .stuck)
  | .sCount, [y] => (match x, y with
    | .val (.str s), .val (.str [c]) => .ok (.val (.int (s.count c))) L
    | _, _ => .stuck)
  | _, _ => .stuck

/-- the receiver's class -/
def MI.ty : MI → String
  | .lAppend | .lInsert | .lPop | .lPopAt | .lIndex | .lCount | .lExtend | .lReverse | .lClear | .lRemove | .lCopy => "list"
  | .sUpper | .sCount | .sFind | .sJoin | .sSplit | .sIslower | .sIsalpha | .sReplace | .sStartswith | .sRstrip | .sIndex | .sPartition => "str"
  | .dGet | .dKeys => "dict"
def methTy (m : MI) (x : V2) (L : LH) : Bool := match m.ty with
  | "list" => (x.lst? L).isSome
  | "str" => (match x with
    | .val (.str _) => true
    | _ => false)
  | _ => false
/-- the defs by number, their parameters -/
structure Cl where
  call : Nat → List V2 → LH → R V2
  bind : Nat → List V2 → List (Nat × V2) → Option (List V2)
  glob : Nat → D
  kit : TV → IC → Option Bool
  hot : Bool
/-- what a call hands back, where the list is not to change -/
def frzd (own : Bool) (n0 : Nat) (x : V2) (L : LH) : R V2 := match own with
  | true => .ok x L
  | false => (match x with
    | .ref n => if n = n0 then (match L[n]? with
        | some (.lst xs) => .ok (.val (.lst xs)) (L.take n)
        | some (.ins C fs) => .ok (.val (.ins C fs)) (L.take n)
        | some (.dct kvs) => .ok (.val (.dct kvs)) (L.take n)
        | _ => .stuck) else .ok x L
    | _ => .ok x L)
/-- the items that a for walks -/
def range2 (a b : Int) : List D := (List.range (b - a).toNat).map fun (k : Nat) => D.int (a + (k : Int))
def itemsV (k : IK) (xs : List V2) (L : LH) : Option (List D) := match k, xs with
  | .over, [x] => (match x with
    | .val (.str s) => some (s.map fun c => .str [c])
    | _ => x.seq? L)
  | .range, [x] => (match x with
    | .val (.int n) => if decide (-(2 ^ 62) ≤ n) && decide (n < 2 ^ 62) then some (range2 0 n) else none
    | _ => none)
  | .range, [x, y] => (match x, y with
    | .val (.int a), .val (.int b) => if decide (-(2 ^ 62) ≤ a) && decide (a < 2 ^ 62) && decide (-(2 ^ 62) ≤ b) && decide (b < 2 ^ 62) then some (range2 a b) else none
    | _, _ => none)
  | _, _ => none
/-- the list that must stand while it is walked -/
def srcOf (k : IK) (xs : List V2) : Option Nat := match k, xs with
  | .over, [.ref n] => some n
  | _, _ => none
def srcOk (src : Option Nat) (xs : List D) (L : LH) : Prop := match src with
  | none => True
  | some n => L[n]? = some (.lst xs)
def store (tg : ITg) (d : D) (sl : SL) : Option SL := match tg with
  | .nm i => some (sl.set i (some (.val d)))
  | .tp is => (match d with
    | .tup xs => if xs.length = is.length then some ((is.zip xs).foldl (fun s p => s.set p.1 (some (.val p.2))) sl) else none
    | _ => none)
open Classical in
/-- the turns of a comprehension -/
noncomputable def compGo (ev : SL → LH → R (Option D)) (tg : ITg) (sl : SL) (src : Option Nat) (ds : List D) (n : Nat) : List D → List D → LH → R (List D)
  | [], acc, L => if srcOk src ds L then .ok acc L else .stuck
  | x :: r, acc, L => if srcOk src ds L then (match store tg x sl with
    | some sl' => (match ev sl' L with
      | .ok (some y) L' => if L'.length = n && decide (acc.length < lim) then compGo ev tg sl src ds n r (acc ++ [y]) L' else .stuck
      | .ok none L' => if L'.length = n then compGo ev tg sl src ds n r acc L' else .stuck
      | _ => .stuck)
    | none => .stuck) else .stuck

/-- a comprehension's test -/
def testOf (bs : List V2) (L : LH) : Option Bool := match bs with
  | [] => some true
  | [x] => x.truth L
  | _ => none

open Classical in
mutual
noncomputable def ev (c : Cl) : IE → SL → LH → R V2
  | .c d, _, L => .ok (.val d) L
  | .v i, sl, L => (match sl[i]? with
    | some (some x) => .ok x L
    | _ => .stuck)
  | .g x, _, L => .ok (.val (c.glob x)) L
  | .tup es, sl, L => (evs c es sl L).bind fun xs L1 => match dats xs with
    | some ds => newT ds L1
    | none => .stuck
  | .lst own es, sl, L => (evs c es sl L).bind fun xs L1 => match dats xs with
    | some ds => newL own ds L1
    | none => .stuck
  | .bin op own a b, sl, L => (ev c a sl L).bind fun x L1 => (ev c b sl L1).bind fun y L2 => binV op own x y L2
  | .neg a, sl, L => (ev c a sl L).bind fun x L1 => match x with
    | .val (.int i) => .ok (.val (.int (-i))) L1
    | _ => .stuck
  | .cmp op a b, sl, L => (ev c a sl L).bind fun x L1 => (ev c b sl L1).bind fun y L2 => cmpR op x y L2
  | .chain o1 o2 a b d, sl, L => (ev c a sl L).bind fun x L1 => (ev c b sl L1).bind fun y L2 => (cmpR o1 x y L2).bind fun z L3 => match z with
    | .val (.bl true) => (ev c d sl L3).bind fun w L4 => cmpR o2 y w L4
    | .val (.bl false) => .ok (.val (.bl false)) L3
    | _ => .stuck
  | .and a b, sl, L => (ev c a sl L).bind fun x L1 => match x.truth L1 with
    | some true => ev c b sl L1
    | some false => .ok x L1
    | none => .stuck
  | .or a b, sl, L => (ev c a sl L).bind fun x L1 => match x.truth L1 with
    | some true => .ok x L1
    | some false => ev c b sl L1
    | none => .stuck
  | .not a, sl, L => (ev c a sl L).bind fun x L1 => match x.truth L1 with
    | some k => .ok (.val (.bl (!k))) L1
    | none => .stuck
  | .ife t a b, sl, L => (ev c t sl L).bind fun x L1 => match x.truth L1 with
    | some true => ev c a sl L1
    | some false => ev c b sl L1
    | none => .stuck
  | .sub a i, sl, L => (ev c a sl L).bind fun x L1 => (ev c i sl L1).bind fun y L2 => subV x y L2
  | .slice own a lo hi, sl, L => (ev c a sl L).bind fun x L1 => (evp c lo sl L1).bind fun l L2 => (evp c hi sl L2).bind fun h L3 => sliceV own x l h L3
  | .rev own a, sl, L => (ev c a sl L).bind fun x L1 => revV own x L1
  | .call own f es ks, sl, L => (evs c es sl L).bind fun xs L1 => (evk c ks sl L1).bind fun ys L2 => match c.bind f xs ys with
    | some zs => (c.call f zs L2).bind fun r L3 => frzd own L2.length r L3
    | none => .stuck
  | .bi own b es, sl, L => if c.hot && b.calm then .stuck else (evs c es sl L).bind fun xs L1 => biV own b xs L1
  | .isi e cs, sl, L => (ev c e sl L).bind fun x L1 => match isIC c.kit L1 x cs with
    | some k => .ok (.val (.bl k)) L1
    | none => .stuck
  | .comp own elt tg k it ts, sl, L => if c.hot then .stuck else (evs c it sl L).bind fun xs L1 => match itemsV k xs L1 with
    | some ds => (compGo (fun sl' L' => (evs c ts sl' L').bind fun bs L2 => (match testOf bs L2 with
        | some true => (ev c elt sl' L2).bind fun x L3 => (match x.dat? with
          | some d => .ok (some d) L3
          | none => .stuck)
        | some false => .ok none L2
        | none => .stuck)) tg sl (srcOf k xs) ds L1.length ds [] L1).bind fun ys L2 => newL own ys L2
    | none => .stuck
  | .meth own m e es, sl, L => (ev c e sl L).bind fun x L1 => if methTy m x L1 then (evs c es sl L1).bind fun xs L2 => methV own m x xs L2 else .stuck
noncomputable def evs (c : Cl) : List IE → SL → LH → R (List V2)
  | [], _, L => .ok [] L
  | e :: r, sl, L => (ev c e sl L).bind fun x L1 => (evs c r sl L1).bind fun xs L2 => .ok (x :: xs) L2
noncomputable def evk (c : Cl) : List (Nat × IE) → SL → LH → R (List (Nat × V2))
  | [], _, L => .ok [] L
  | (k, e) :: r, sl, L => (ev c e sl L).bind fun x L1 => (evk c r sl L1).bind fun xs L2 => .ok ((k, x) :: xs) L2
/-- a slice's end -/
noncomputable def evp (c : Cl) : Option IE → SL → LH → R (Option Int)
  | none, _, L => .ok none L
  | some e, sl, L => (ev c e sl L).bind fun x L1 => match x.int? with
    | some i => .ok (some i) L1
    | none => .stuck
end
/-- as a test -/
noncomputable def evt (c : Cl) (e : IE) (sl : SL) (L : LH) : R Bool := (ev c e sl L).bind fun x L1 => R.opt (x.truth L1) L1

inductive RS where
  | nx (sl : SL) (L : LH) | rt (v : V2) (L : LH) | bk (sl : SL) (L : LH) | ct (sl : SL) (L : LH)
  | exc (C : Nat) (fs : List (Nat × D)) (sl : SL) (L : LH) | stuck
/-- a computation within a statement -/
def R.st {α : Type} (r : R α) (sl : SL) (f : α → LH → RS) : RS := match r with
  | .ok a L => f a L
  | .exc C fs L => .exc C fs sl L
  | .stuck => .stuck
@[simp] theorem R.st_ok {α : Type} (a : α) (L : LH) (sl : SL) (f : α → LH → RS) : (R.ok a L).st sl f = f a L := rfl
@[simp] theorem R.st_exc {α : Type} (C : Nat) (fs : List (Nat × D)) (L : LH) (sl : SL) (f : α → LH → RS) : (R.exc C fs L : R α).st sl f = .exc C fs sl L := rfl
@[simp] theorem R.st_stuck {α : Type} (sl : SL) (f : α → LH → RS) : (R.stuck : R α).st sl f = .stuck := rfl
/-- one statement, then another -/
def RS.thn (r : RS) (f : SL → LH → RS) : RS := match r with
  | .nx sl L => f sl L
  | r => r
@[simp] theorem RS.thn_nx (sl : SL) (L : LH) (f : SL → LH → RS) : (RS.nx sl L).thn f = f sl L := rfl
@[simp] theorem RS.thn_rt (v : V2) (L : LH) (f : SL → LH → RS) : (RS.rt v L).thn f = .rt v L := rfl
@[simp] theorem RS.thn_bk (sl : SL) (L : LH) (f : SL → LH → RS) : (RS.bk sl L).thn f = .bk sl L := rfl
@[simp] theorem RS.thn_ct (sl : SL) (L : LH) (f : SL → LH → RS) : (RS.ct sl L).thn f = .ct sl L := rfl
@[simp] theorem RS.thn_exc (C : Nat) (fs : List (Nat × D)) (sl : SL) (L : LH) (f : SL → LH → RS) : (RS.exc C fs sl L).thn f = .exc C fs sl L := rfl
@[simp] theorem RS.thn_stuck (f : SL → LH → RS) : RS.stuck.thn f = .stuck := rfl
/-- behind a loop's turn -/
def RS.turn (r : RS) (f : SL → LH → RS) : RS := match r with
  | .nx sl L => f sl L
  | .ct sl L => f sl L
  | .bk sl L => .nx sl L
  | r => r
@[simp] theorem RS.turn_nx (sl : SL) (L : LH) (f : SL → LH → RS) : (RS.nx sl L).turn f = f sl L := rfl
@[simp] theorem RS.turn_rt (v : V2) (L : LH) (f : SL → LH → RS) : (RS.rt v L).turn f = .rt v L := rfl
@[simp] theorem RS.turn_bk (sl : SL) (L : LH) (f : SL → LH → RS) : (RS.bk sl L).turn f = .nx sl L := rfl
@[simp] theorem RS.turn_ct (sl : SL) (L : LH) (f : SL → LH → RS) : (RS.ct sl L).turn f = f sl L := rfl
@[simp] theorem RS.turn_exc (C : Nat) (fs : List (Nat × D)) (sl : SL) (L : LH) (f : SL → LH → RS) : (RS.exc C fs sl L).turn f = .exc C fs sl L := rfl
@[simp] theorem RS.turn_stuck (f : SL → LH → RS) : RS.stuck.turn f = .stuck := rfl

open Classical in
/-- a for's turns -/
noncomputable def forGo (body : SL → LH → RS) (tg : ITg) (src : Option Nat) (ds : List D) : List D → SL → LH → RS
  | [], sl, L => if srcOk src ds L then .nx sl L else .stuck
  | x :: r, sl, L => if srcOk src ds L then (match store tg x sl with
    | some sl' => (body sl' L).turn fun s' L' => forGo body tg src ds r s' L'
    | none => .stuck) else .stuck
/-- a while's turns -/
def whlGo (t : SL → LH → R Bool) (body : SL → LH → RS) : Nat → SL → LH → RS
  | 0, _, _ => .stuck
  | n + 1, sl, L => (t sl L).st sl fun k L1 => if k then (body sl L1).turn fun s' L' => whlGo t body n s' L' else .nx sl L1
def whlMost : Nat := 1000000
/-- the list of slot i will not change any more -/
def frzSlot (sl : SL) (L : LH) (i : Nat) : RS := match sl[i]? with
  | some (some (.ref n)) => (match L[n]? with
    | some (.lst xs) => .nx (sl.map fun o => match o with
      | some (.ref m) => if m = n then some (.val (.lst xs)) else some (.ref m)
      | o => o) (L.set n .dead)
    | _ => .stuck)
  | _ => .stuck
def putV (o i : V2) (y : D) (L : LH) : Option LH := match o, i.int? with
  | .ref n, some k => (match L[n]? with
    | some (.lst xs) => (match L2.ixN xs.length k with
      | some j => some (L.set n (.lst (xs.set j y)))
      | none => none)
    | _ => none)
  | _, _ => none
def unpV (is : List Nat) (x : V2) (sl : SL) : Option SL := match x with
  | .val d => store (.tp is) d sl
  | _ => none
mutual
noncomputable def exec (c : Cl) : IS → SL → LH → RS
  | .set i e, sl, L => (ev c e sl L).st sl fun x L1 => .nx (sl.set i (some x)) L1
  | .unp is e, sl, L => if c.hot then .stuck else (ev c e sl L).st sl fun x L1 => match unpV is x sl with
    | some sl' => .nx sl' L1
    | none => .stuck
  | .put o i e, sl, L => (ev c e sl L).st sl fun y L1 => (ev c o sl L1).st sl fun x L2 => (ev c i sl L2).st sl fun k L3 => match y with
    | .val d => (match putV x k d L3 with
      | some L4 => .nx sl L4
      | none => .stuck)
    | _ => .stuck
  | .aug i op e, sl, L => (match sl[i]? with
    | some (some x) => (ev c e sl L).st sl fun y L1 => (binV op true x y L1).st sl fun z L2 => .nx (sl.set i (some z)) L2
    | _ => .stuck)
  | .ex e, sl, L => (ev c e sl L).st sl fun _ L1 => .nx sl L1
  | .ret e, sl, L => (match e with
    | some e => (ev c e sl L).st sl fun x L1 => .rt x L1
    | none => .rt (.val .non) L)
  | .ife t a b, sl, L => (evt c t sl L).st sl fun k L1 => if k then execs c a sl L1 else execs c b sl L1
  | .for_ tg k it b, sl, L => if c.hot then .stuck else (evs c it sl L).st sl fun xs L1 => match itemsV k xs L1 with
    | some ds => forGo (fun s' L' => execs c b s' L') tg (srcOf k xs) ds ds sl L1
    | none => .stuck
  | .whl t b, sl, L => whlGo (fun s' L' => evt c t s' L') (fun s' L' => execs c b s' L') whlMost sl L
  | .pass, sl, L => .nx sl L
  | .brk, sl, L => .bk sl L
  | .cont, sl, L => .ct sl L
  | .frz i, sl, L => frzSlot sl L i
noncomputable def execs (c : Cl) : List IS → SL → LH → RS
  | [], sl, L => .nx sl L
  | s :: r, sl, L => (exec c s sl L).thn fun s' L' => execs c r s' L'
end

structure Fn where
  norm : List Nat
  kwo : List Nat := []
  dfl : List D := []
  kwd : List (Nat × D) := []
  slots : Nat
  body : List IS
/-- the arguments in the parameters' order -/
def bindP {α : Type} (norm kwo : List Nat) (dfl : List α) (kwd : List (Nat × α)) (pos : List α) (kw : List (Nat × α)) : Option (List α) :=
  if pos.length ≤ norm.length then
    let given := norm.zip pos ++ kw
    if kw.all (fun p => (norm ++ kwo).contains p.1) && decide (given.map (·.1)).Nodup then
      let all := given ++ ((norm.drop (norm.length - dfl.length)).zip dfl ++ kwd)
      (norm ++ kwo).mapM fun x => all.lookup x
    else none
  else none
structure Prog where
  fn : Nat → Option Fn
  glob : Nat → D
  kit : TV → IC → Option Bool
def Prog.bind (P : Prog) (f : Nat) (pos : List V2) (kw : List (Nat × V2)) : Option (List V2) := match P.fn f with
  | some F => bindP F.norm F.kwo (F.dfl.map V2.val) (F.kwd.map fun p => (p.1, V2.val p.2)) pos kw
  | none => none
/-- what a def hands back; its own objects go -/
def retV (n0 : Nat) (v : V2) (L : LH) : R V2 := match v with
  | .val d => .ok (.val d) (L.take n0)
  | .ref n => if n < n0 then .ok (.ref n) (L.take n0) else (match L[n]? with
    | some .dead => .stuck
    | some o => .ok (.ref n0) (L.take n0 ++ [o])
    | none => .stuck)
  | .exn _ _ => .stuck
def RS.fin (n0 : Nat) : RS → R V2
  | .nx _ L => .ok (.val .non) (L.take n0)
  | .rt v L => retV n0 v L
  | .exc C fs _ L => .exc C fs (L.take n0)
  | _ => .stuck
noncomputable def runF (c : Cl) (F : Fn) (vs : List V2) (L : LH) : R V2 :=
  if vs.length = F.norm.length + F.kwo.length then (execs c F.body (vs.map some ++ List.replicate (F.slots - vs.length) none) L).fin L.length else .stuck
/-- a def's call, at most k defs deep -/
noncomputable def call (P : Prog) (hot : Bool) : Nat → Nat → List V2 → LH → R V2
  | 0, _, _, _ => .stuck
  | k + 1, f, vs, L => match P.fn f with
    | some F => runF ⟨call P hot k, P.bind, P.glob, P.kit, hot⟩ F vs L
    | none => .stuck
/-- what a def sees -/
noncomputable def cl (P : Prog) (hot : Bool) (k : Nat) : Cl := ⟨call P hot k, P.bind, P.glob, P.kit, hot⟩
end PI

set_option maxRecDepth 100000
set_option maxHeartbeats 1000000
namespace PI
open PySem PySem.Spec PyProof.Rows L2

theorem lim_eq : lim = sizeLine := by rw [sizeLine_eq]
/-- what is wanted behind a computation: Rel says what a result is -/
def Fin {α β : Type} (G : Gd) (Rel : List Addr → LH → Hp → α → β → Prop) (W : Nat → List (Nat × D) → List Addr → LH → Hp → Prop) (φ : List Addr) (L : LH) (H : Hp) (Q : β → Hp → Prop) : R α → Prop
  | .ok x L' => ∀ φ' v H', HR G φ' L' H' → Ext G φ L H φ' L' H' → Rel φ' L' H' x v → Q v H'
  | .exc C fs L' => ∀ φ' H', HR G φ' L' H' → Ext G φ L H φ' L' H' → W C fs φ' L' H'
  | .stuck => False
theorem Fin.ext {α β : Type} {G : Gd} {Rel : List Addr → LH → Hp → α → β → Prop} {W : Nat → List (Nat × D) → List Addr → LH → Hp → Prop} {φ φ1 : List Addr} {L L1 : LH} {H H1 : Hp} {Q : β → Hp → Prop} {c : R α}
    (e : Ext G φ L H φ1 L1 H1) (h : Fin G Rel W φ L H Q c) : Fin G Rel W φ1 L1 H1 Q c := by
  cases c with
  | ok x L' => exact fun φ' v H' h1 h2 h3 => h φ' v H' h1 (e.trans h2) h3
  | exc C fs L' => exact fun φ' H' h1 h2 => h φ' H' h1 (e.trans h2)
  | stuck => exact h
/-- no exception -/
abbrev noW : Nat → List (Nat × D) → List Addr → LH → Hp → Prop := fun _ _ _ _ _ => False
abbrev RelV2 (G : Gd) (pn : Pn) : List Addr → LH → Hp → V2 → V → Prop := fun φ L H x v => RV G pn φ (Own G φ L) H x v
/-- readings of operations by values -/
def rd1 (G : Gd) (pn : Pn) (f : V2 → LH → R V2) : V → Hp → VK → Prop := fun v H Q => ∃ (W : Nat → List (Nat × D) → List Addr → LH → Hp → Prop) (φ : List Addr) (L : LH) (x : V2), HR G φ L H ∧ RV G pn φ (Own G φ L) H x v ∧ Fin G (RelV2 G pn) W φ L H Q (f x L)
def rd2 (G : Gd) (pn : Pn) (f : V2 → V2 → LH → R V2) : R2 := fun v u H Q => ∃ (W : Nat → List (Nat × D) → List Addr → LH → Hp → Prop) (φ : List Addr) (L : LH) (x y : V2), HR G φ L H ∧ RV G pn φ (Own G φ L) H x v ∧ RV G pn φ (Own G φ L) H y u ∧ Fin G (RelV2 G pn) W φ L H Q (f x y L)
/-- several values -/
def RVs (G : Gd) (pn : Pn) (φ : List Addr) (O : Addr → Prop) (H : Hp) : List V2 → List V → Prop
  | [], vs => vs = []
  | x :: xs, vs => ∃ v r, vs = v :: r ∧ RV G pn φ O H x v ∧ RVs G pn φ O H xs r
def rdN (G : Gd) (pn : Pn) (f : List V2 → LH → R V2) : List V → Hp → VK → Prop := fun vs H Q => ∃ (W : Nat → List (Nat × D) → List Addr → LH → Hp → Prop) (φ : List Addr) (L : LH) (xs : List V2), HR G φ L H ∧ RVs G pn φ (Own G φ L) H xs vs ∧ Fin G (RelV2 G pn) W φ L H Q (f xs L)
def rdM (G : Gd) (pn : Pn) (f : V2 → List V2 → LH → R V2) : V → List V → Hp → VK → Prop := fun v vs H Q => ∃ (W : Nat → List (Nat × D) → List Addr → LH → Hp → Prop) (φ : List Addr) (L : LH) (x : V2) (xs : List V2), HR G φ L H ∧ RV G pn φ (Own G φ L) H x v ∧ RVs G pn φ (Own G φ L) H xs vs ∧ Fin G (RelV2 G pn) W φ L H Q (f x xs L)

section
variable {G : Gd} {pn : Pn} {φ : List Addr} {L : LH} {H : Hp} {Q : VK}
/-- a pure answer -/
theorem fin_val {W : Nat → List (Nat × D) → List Addr → LH → Hp → Prop} {d : D} {v : V} (h : HR G φ L H) (f : Fin G (RelV2 G pn) W φ L H Q (.ok (.val d) L)) (r : RD G (Own G φ L) H d v) : Q v H := f φ v H h (Ext.refl _ _ _ _) r
theorem fin_v2 {W : Nat → List (Nat × D) → List Addr → LH → Hp → Prop} {x : V2} {v : V} (h : HR G φ L H) (f : Fin G (RelV2 G pn) W φ L H Q (.ok x L)) (r : RV G pn φ (Own G φ L) H x v) : Q v H := f φ v H h (Ext.refl _ _ _ _) r
/-- a new list -/
theorem fin_newL {W : Nat → List (Nat × D) → List Addr → LH → Hp → Prop} {own : Bool} {xs : List D} {vs : List V} (h : HR G φ L H) (f : Fin G (RelV2 G pn) W φ L H Q (newL own xs L)) (r : RDs G (Own G φ L) H xs vs) :
    vs.length ≤ sizeLine ∧ ∀ p, H p = none → Q (.ref p) (upd H p (.lst vs)) := by
  unfold newL at f
  by_cases hl : xs.length ≤ lim
  · rw [if_pos hl] at f
    refine ⟨by rw [← r.len, ← lim_eq]; exact hl, fun p hp => ?_⟩
    cases own with
    | false =>
      obtain ⟨h1, e1⟩ := h.lay hp (.lst vs)
      refine f φ (.ref p) _ h1 e1 ⟨p, vs, rfl, ⟨.inl upd_same, fun z => (h.notOwn hp) z⟩, RDs.go e1.stp xs vs r⟩
    | true =>
      have r1 : RO G (Own G (φ ++ [p]) (L ++ [LO.lst xs])) (upd H p (.lst vs)) p (.lst xs) := ⟨vs, upd_same, by
        have s : Stp (Own G φ L) H (Own G (φ ++ [p]) (L ++ [LO.lst xs])) (upd H p (.lst vs)) := by
          exact (HR.allocStp h hp (.lst vs) (.lst xs))
        exact RDs.go s xs vs r⟩
      obtain ⟨h1, e1, e2⟩ := h.alloc hp (.lst vs) (.lst xs) (by intro z; cases z) r1
      exact f _ (.ref p) _ h1 e1 ⟨p, rfl, e2⟩
  · rw [if_neg hl] at f
    exact f.elim
theorem fin_newT {W : Nat → List (Nat × D) → List Addr → LH → Hp → Prop} {xs : List D} {vs : List V} (h : HR G φ L H) (f : Fin G (RelV2 G pn) W φ L H Q (newT xs L)) (r : RDs G (Own G φ L) H xs vs) :
    vs.length ≤ sizeLine ∧ ∀ p, H p = none → Q (.ref p) (upd H p (.tup vs)) := by
  unfold newT at f
  by_cases hl : xs.length ≤ lim
  · rw [if_pos hl] at f
    refine ⟨by rw [← r.len, ← lim_eq]; exact hl, fun p hp => ?_⟩
    obtain ⟨h1, e1⟩ := h.lay hp (.tup vs)
    exact f φ (.ref p) _ h1 e1 ⟨p, vs, rfl, .inl ⟨.inl upd_same, fun z => (h.notOwn hp) z⟩, RDs.go e1.stp xs vs r⟩
  · rw [if_neg hl] at f
    exact f.elim
theorem fin_tupKept {W : Nat → List (Nat × D) → List Addr → LH → Hp → Prop} {xs : List D} {a : Addr} {vs : List V} (h : HR G φ L H) (f : Fin G (RelV2 G pn) W φ L H Q (newT xs L)) (t : TupAt G.K (Own G φ L) H a vs) (r : RDs G (Own G φ L) H xs vs) : Q (.ref a) H := by
  unfold newT at f
  by_cases hl : xs.length ≤ lim
  · rw [if_pos hl] at f
    exact fin_val h f ⟨a, vs, rfl, t, r⟩
  · rw [if_neg hl] at f
    exact f.elim
theorem fin_newS {W : Nat → List (Nat × D) → List Addr → LH → Hp → Prop} {s : List Nat} (h : HR G φ L H) (f : Fin G (RelV2 G pn) W φ L H Q (newS s L)) (hc : ∀ c ∈ s, c < 0x110000) : s.length ≤ sizeLine ∧ Q (.str ⟨s.toArray⟩) H := by
  unfold newS at f
  by_cases hl : s.length ≤ lim
  · rw [if_pos hl] at f
    exact ⟨by rw [← lim_eq]; exact hl, fin_val h f ⟨rfl, hc, hl⟩⟩
  · rw [if_neg hl] at f
    exact f.elim

theorem RV.int {x : V2} {v : V} {i : Int} (r : RV G pn φ (Own G φ L) H x v) (e : x.int? = some i) : v = .int i ∧ x = .val (.int i) := by
  cases x with
  | val d => cases d <;> first | (simp [V2.int?] at e; subst e; exact ⟨r, rfl⟩) | (simp [V2.int?] at e)
  | ref n => simp [V2.int?] at e
  | exn C fs => simp [V2.int?] at e
/-- a list, whoever owns it -/
theorem RV.lst (h : HR G φ L H) {x : V2} {v : V} {xs : List D} (r : RV G pn φ (Own G φ L) H x v) (e : x.lst? L = some xs) : ∃ a vs, v = .ref a ∧ Rd H a (.lst vs) ∧ RDs G (Own G φ L) H xs vs := by
  cases x with
  | val d =>
    cases d with
    | lst ys =>
      simp [V2.lst?] at e
      subst e
      obtain ⟨a, vs, e, t, q⟩ := r
      exact ⟨a, vs, e, t.1, q⟩
    | _ => simp [V2.lst?] at e
  | ref n =>
    obtain ⟨a, rfl, ha⟩ := r
    cases hn : L[n]? with
    | none => simp [V2.lst?, hn] at e
    | some o =>
      cases o with
      | lst ys =>
        simp [V2.lst?, hn] at e
        subst e
        obtain ⟨vs, q1, q2⟩ := h.at_ n _ a hn ha
        exact ⟨a, vs, rfl, .inl q1, q2⟩
      | _ => simp [V2.lst?, hn] at e
  | exn C fs => simp [V2.lst?] at e
theorem RV.seq (h : HR G φ L H) {x : V2} {v : V} {xs : List D} (r : RV G pn φ (Own G φ L) H x v) (e : x.seq? L = some xs) : ∃ a vs, v = .ref a ∧ (Rd H a (.lst vs) ∨ SqT G.K H a vs) ∧ RDs G (Own G φ L) H xs vs := by
  cases x with
  | val d =>
    cases d with
    | tup ys =>
      simp [V2.seq?] at e
      subst e
      obtain ⟨a, vs, e, t, q⟩ := r
      exact ⟨a, vs, e, .inr t.sq, q⟩
    | lst ys =>
      simp [V2.seq?] at e
      subst e
      obtain ⟨a, vs, e, t, q⟩ := r
      exact ⟨a, vs, e, .inl t.1, q⟩
    | _ => simp [V2.seq?] at e
  | ref n =>
    have e' : (V2.ref n).lst? L = some xs := e
    obtain ⟨a, vs, e1, t, q⟩ := RV.lst h r e'
    exact ⟨a, vs, e1, .inl t, q⟩
  | exn C fs => simp [V2.seq?] at e
/-- an owned list -/
theorem RV.own (h : HR G φ L H) {n : Nat} {v : V} {xs : List D} (r : RV G pn φ (Own G φ L) H (.ref n) v) (e : L[n]? = some (.lst xs)) : ∃ a vs, v = .ref a ∧ φ[n]? = some a ∧ H a = some (.lst vs) ∧ RDs G (Own G φ L) H xs vs := by
  obtain ⟨a, rfl, ha⟩ := r
  obtain ⟨vs, q1, q2⟩ := h.at_ n _ a e ha
  exact ⟨a, vs, rfl, ha, q1, q2⟩
/-- an owned list is changed -/
theorem fin_put (h : HR G φ L H) {n : Nat} {a : Addr} {xs ys : List D} {us : List V} (e : L[n]? = some (.lst xs)) (ha : φ[n]? = some a) (r : RDs G (Own G φ L) H ys us) :
    HR G φ (L.set n (.lst ys)) (upd H a (.lst us)) ∧ Ext G φ L H φ (L.set n (.lst ys)) (upd H a (.lst us)) := by
  refine h.put e (by intro z; cases z) ha (.lst us) (by intro z; cases z) ⟨us, upd_same, ?_⟩
  exact RDs.go (h.putStp e (by intro z; cases z) ha (.lst us) (.lst ys)) ys us r
end
end PI

set_option maxRecDepth 100000
set_option maxHeartbeats 1000000
namespace PI
open PySem PySem.Spec PyProof.Rows L2

section
variable {G : Gd} {pn : Pn} {φ : List Addr} {L : LH} {H : Hp} {Q : VK} {X : Cx}
theorem RDs.repl {O : Addr → Prop} {ds : List D} {vs : List V} (r : RDs G O H ds vs) : ∀ k : Nat, RDs G O H (List.replicate k ds).flatten (List.replicate k vs).flatten
  | 0 => rfl
  | k + 1 => by
    rw [List.replicate_succ, List.replicate_succ, List.flatten_cons, List.flatten_cons]
    exact RDs.app r (RDs.repl r k)
theorem lstR {pins : List (Addr × Obj)} {σ : L2.St} {s : Shared} {l : Addr} {xs : List V} (I : Inv X pins σ H s) (hH : Rd H l (.lst xs)) :
    xs.length ≤ sizeLine ∧ ∃ (its : List Value) (n : Nat), Vals xs its ∧ xs.length = its.length ∧ s.heap.get? l = some { cls := .type "list", data := .seq its.toArray n } := by
  obtain ⟨z, its, n, r, e⟩ := hH.ok I.hok
  exact ⟨z, its, n, r, r.length, e⟩
theorem op_catR : OpR X (binaryOp .Add) (fun x y H Q => ∃ l b xs zs, x = .ref l ∧ y = .ref b ∧ Rd H l (.lst xs) ∧ Rd H b (.lst zs) ∧ xs.length + zs.length ≤ sizeLine ∧ ∀ p, H p = none → Q (.ref p) (upd H p (.lst (xs ++ zs)))) := by
  intro pins s σ H x y v u Q I rx ry h
  obtain ⟨l, b, xs, zs, rfl, rfl, hH, hB, hz, q⟩ := h
  cases rx
  cases ry
  obtain ⟨z, its, n, r, hl, e⟩ := lstR I hH
  obtain ⟨z2, its2, n2, r2, hl2, e2⟩ := lstR I hB
  refine PySem.P.add_list e e2 ?_ (by rw [List.size_toArray, List.size_toArray]; omega)
  have ea : its.toArray ++ its2.toArray = (its ++ its2).toArray := by simp
  rw [ea]
  exact ⟨.ref _, _, I.lnew (t' := s.toks) (r.append r2) (by rw [List.length_append]; omega), rfl, q _ I.fresh⟩
theorem op_repR : OpR X (binaryOp .Mult) (fun x y H Q => ∃ l k xs, x = .ref l ∧ y = .int k ∧ Rd H l (.lst xs) ∧ -(2 ^ 63) ≤ k ∧ k < 2 ^ 63 ∧ xs.length * k.toNat ≤ sizeLine ∧
    ∀ p, H p = none → Q (.ref p) (upd H p (.lst (List.replicate k.toNat xs).flatten))) := by
  intro pins s σ H x y v u Q I rx ry h
  obtain ⟨l, k, xs, rfl, rfl, hH, h1, h2, hz, q⟩ := h
  cases rx
  obtain ⟨t, rfl⟩ := ry
  obtain ⟨z, its, n, r, hl, e⟩ := lstR I hH
  have hlen : its.toArray.size * k.toNat ≤ sizeLine := by rw [List.size_toArray, ← hl]; exact hz
  have hcap : ¬ its.toArray.size * k.toNat > (2 ^ 63 - 1) / 8 := by
    have : (sizeLine : Nat) ≤ (2 ^ 63 - 1) / 8 := by decide
    omega
  have hfit : ¬ (!Builtin.List.listFitsIndex k) = true := by
    rw [fitsIndex_both h1 h2]
    exact Bool.false_ne_true
  have hlong : ¬ Builtin.List.listTooLong (its.toArray.size * k.toNat) = true := by
    rw [notLongL hlen]
    exact Bool.false_ne_true
  have hnew : List.foldl (fun x1 x2 => x1 ++ x2) #[] (List.replicate (if its.toArray.isEmpty = true then 0 else k.toNat) its.toArray) = (List.replicate k.toNat its).flatten.toArray := by
    have f0 : ∀ m : Nat, List.foldl (fun x1 x2 => x1 ++ x2) #[] (List.replicate m its.toArray) = (List.replicate m its).flatten.toArray := fun m => by
      have := foldl_rep its m []
      rw [List.nil_append] at this
      exact this
    rw [f0]
    cases its with
    | nil => simp
    | cons a r' => rw [if_neg (by simp)]
  refine wpAny_binaryOp_repeat_ref (T := "list") (U := "int") (by decide) ⟨_, e, rfl⟩ (fun s' => typeIs_int s' k t) noFill_list_mul F.fills_int_mul F.slot_int_rmul repeat_list F.slot_int_index.lookup
    (call_meets F.slot_int_rmul (typeIs_int s k t) F.entry_int_rmul (F.args_int_rmul_2 _ _) (int___rmul___int_list k t l its.toArray n)
      ⟨e, rfl, ⟨_, e, rfl⟩, call_meets F.slot_list_mul ⟨_, e, rfl⟩ F.entry_list_mul (F.args_list_mul_2 _ _) (AutoListH.list___mul___list_int_3 l its.toArray n k t hfit hcap hlong) ⟨e, ?_⟩⟩)
  rw [hnew]
  exact ⟨.ref _, _, I.lnew (t' := s.toks) (r.rep k.toNat) (by rw [PyProof.Rows.lm_len_rep_flat, Nat.mul_comm]; exact hz), rfl, q _ I.fresh⟩
theorem foldl_arr (c : Array Nat) : ∀ (m : Nat) (acc : Array Nat), ((List.replicate m c).foldl (· ++ ·) acc).toList = acc.toList ++ (List.replicate m c.toList).flatten
  | 0, acc => by simp
  | m + 1, acc => by
    rw [List.replicate_succ, List.foldl_cons, foldl_arr c m]
    simp [List.replicate_succ]
theorem mul_rep (s : List Nat) (k : Int) : Txt.mul ⟨s.toArray⟩ k = ⟨(rep s k).toArray⟩ := by
  unfold Txt.mul rep
  by_cases h1 : k < 1
  · have e : k.toNat = 0 := by omega
    rw [if_pos h1, e]
    rfl
  · rw [if_neg h1]
    by_cases h2 : (k == 1 || (⟨s.toArray⟩ : Str).length == 0) = true
    · rw [if_pos h2]
      rcases Bool.or_eq_true_iff.mp h2 with q | q
      · have e : k = 1 := by simpa using q
        subst e
        simp
      · have e : s = [] := by
          have : (⟨s.toArray⟩ : Str).length = 0 := by simpa using q
          simpa [Str.length] using this
        subst e
        have : ∀ m : Nat, (List.replicate m ([] : List Nat)).flatten = [] := fun m => by induction m with
          | zero => rfl
          | succ m ih => rw [List.replicate_succ, List.flatten_cons, ih]; rfl
        rw [this]
    · rw [if_neg h2]
      congr 1
      apply Array.toList_inj.mp
      rw [foldl_arr]
      simp
theorem op_mulStr : OpR X (binaryOp .Mult) (fun x y H Q => ∃ (s : List Nat) (k : Int), x = .str ⟨s.toArray⟩ ∧ y = .int k ∧ -(2 ^ 63) ≤ k ∧ k < 2 ^ 63 ∧ (rep s k).length ≤ sizeLine ∧ Q (.str ⟨(rep s k).toArray⟩) H) := by
  intro pins st σ H x y v u Q I rx ry h
  obtain ⟨s, k, rfl, rfl, h1, h2, hz, q⟩ := h
  obtain ⟨t, rfl⟩ := rx
  obtain ⟨t', rfl⟩ := ry
  have hl : (rep s k).length = k.toNat * s.length := by unfold rep; rw [PyProof.Rows.lm_len_rep_flat]
  have hprod : s.length * k.toNat ≤ 16777216 := by rw [Nat.mul_comm, ← hl]; rw [sizeLine_eq] at hz; exact hz
  have hok : MulOk (⟨s.toArray⟩ : Str) k := by
    have ls : (⟨s.toArray⟩ : Str).length = s.length := by simp [Str.length]
    refine ⟨?_, fun h0 _ => ?_, fun h0 _ => ?_⟩
    · have a1 : ¬ k < -(2 ^ 63 : Int) := by omega
      have a2 : ¬ k ≥ (2 ^ 63 : Int) := by omega
      rw [decide_eq_false a1, decide_eq_false a2]; rfl
    · rw [ls]
      have hpos : 0 < k := by omega
      have e : ((s.length * k.toNat : Nat) : Int) = (s.length : Int) * k := by
        rw [Int.natCast_mul, Int.toNat_of_nonneg (by omega)]
      have h3 : (s.length : Int) * k ≤ 2 ^ 63 - 1 := by rw [← e]; omega
      have h4 : (s.length : Int) ≤ (2 ^ 63 - 1) / k := (Int.le_ediv_iff_mul_le hpos).mpr h3
      omega
    · rw [ls]
      exact short24 hprod
  refine SB.mul hok fun t2 k2 => ?_
  rw [mul_rep]
  exact ⟨.str _, H, I.tok _, ⟨_, rfl⟩, q⟩

theorem str_app (s t : List Nat) : (⟨s.toArray⟩ : Str) ++ ⟨t.toArray⟩ = ⟨(s ++ t).toArray⟩ := by
  show (⟨s.toArray ++ t.toArray⟩ : Str) = _
  simp
theorem ok_add (hX : X.K = G.K) (own : Bool) : OpR X (binaryOp .Add) (rd2 G pn (binV .add own)) := by
  intro pins s σ H v u w z Q I rv ru h
  obtain ⟨W, φ, L, x, y, hR, rx, ry, f⟩ := h
  unfold binV at f
  cases ei : x.int? with
  | some i =>
    cases ej : y.int? with
    | some j =>
      simp only [ei, ej] at f
      obtain ⟨rfl, _⟩ := RV.int rx ei
      obtain ⟨rfl, _⟩ := RV.int ry ej
      exact op_add pins s σ H _ _ w z Q I rv ru ⟨i, j, rfl, rfl, fin_val hR f rfl⟩
    | none =>
      obtain ⟨_, rfl⟩ := RV.int rx ei
      simp only [ei, ej] at f
      cases y with
      | val d => cases d <;> exact f.elim
      | ref n => exact f.elim
      | exn C fs => exact f.elim
  | none =>
    cases ej : y.int? with
    | some j =>
      simp only [ei, ej] at f
      exact f.elim
    | none =>
      simp only [ei, ej] at f
      have lists : ∀ xs ys, x.lst? L = some xs → y.lst? L = some ys → Fin G (RelV2 G pn) W φ L H Q (newL own (xs ++ ys) L) → wpAny (model X.prog X.w) X.A (binaryOp .Add w z) (EP X pins σ Q) X.xe s := fun xs ys e1 e2 f => by
        obtain ⟨a, vs, rfl, la, ra⟩ := RV.lst hR rx e1
        obtain ⟨b, us, rfl, lb, rb⟩ := RV.lst hR ry e2
        obtain ⟨g1, g2⟩ := fin_newL hR f (ra.app rb)
        exact op_catR pins s σ H _ _ w z Q I rv ru ⟨a, b, vs, us, rfl, rfl, la, lb, by rw [← List.length_append]; exact g1, g2⟩
      have gen : (match x.lst? L, y.lst? L with
        | some xs, some ys => newL own (xs ++ ys) L
        | _, _ => .stuck) = (R.stuck : R V2) ∨ ∃ xs ys, x.lst? L = some xs ∧ y.lst? L = some ys := by
        cases e1 : x.lst? L with
        | none => exact .inl rfl
        | some xs =>
          cases e2 : y.lst? L with
          | none => exact .inl rfl
          | some ys => exact .inr ⟨xs, ys, rfl, rfl⟩
      have fin : Fin G (RelV2 G pn) W φ L H Q (match x.lst? L, y.lst? L with
        | some xs, some ys => newL own (xs ++ ys) L
        | _, _ => .stuck) → wpAny (model X.prog X.w) X.A (binaryOp .Add w z) (EP X pins σ Q) X.xe s := fun f => by
        rcases gen with g | ⟨xs, ys, e1, e2⟩
        · rw [g] at f; exact f.elim
        · rw [e1, e2] at f
          exact lists xs ys e1 e2 f
      cases x with
      | val d =>
        cases d with
        | str a =>
          cases y with
          | val d' =>
            cases d' with
            | str b =>
              obtain ⟨rfl, c1, l1⟩ := (show _ = V.str _ ∧ _ from rx)
              obtain ⟨rfl, c2, l2⟩ := (show _ = V.str _ ∧ _ from ry)
              obtain ⟨g1, g2⟩ := fin_newS hR f (fun c hc => (List.mem_append.mp hc).elim (c1 c) (c2 c))
              refine op_add_str pins s σ H _ _ w z Q I rv ru ⟨_, _, rfl, rfl, ?_, ?_⟩
              · simpa [Str.length] using g1
              · rw [str_app]
                exact g2
            | _ => exact fin f
          | ref n => exact fin f
          | exn C fs => exact fin f
        | tup xs =>
          cases y with
          | val d' =>
            cases d' with
            | tup ys =>
              obtain ⟨a, vs, rfl, ta, ra⟩ := rx
              obtain ⟨b, us, rfl, tb, rb⟩ := ry
              obtain ⟨g1, g2⟩ := fin_newT hR f (ra.app rb)
              refine op_catA pins s σ H _ _ w z Q I rv ru ⟨a, b, vs, us, rfl, rfl, by rw [hX]; exact ta.sq, by rw [hX]; exact tb.sq, by rw [← List.length_append]; exact g1, fun e => ?_, fun _ e => ?_, fun _ _ => g2⟩
              · subst e
                have l := ra.len
                have e2 : xs = [] := List.eq_nil_of_length_eq_zero (by simpa using l)
                subst e2
                exact fin_tupKept hR f tb rb
              · subst e
                have l := rb.len
                have e2 : ys = [] := List.eq_nil_of_length_eq_zero (by simpa using l)
                subst e2
                have f' : Fin G (RelV2 G pn) W φ L H Q (newT (xs ++ []) L) := f
                rw [List.append_nil] at f'
                exact fin_tupKept hR f' ta ra
            | _ => exact fin f
          | ref n => exact fin f
          | exn C fs => exact fin f
        | _ => exact fin f
      | ref n => exact fin f
      | exn C fs => exact fin f

theorem binV_ints {W : Nat → List (Nat × D) → List Addr → LH → Hp → Prop} {op : OpB} {own : Bool} {x y : V2} (hop : op ≠ .add) (hop2 : op ≠ .mul) {α : Prop} (f : Fin G (RelV2 G pn) W φ L H Q (binV op own x y L))
    (k : ∀ i j, x.int? = some i → y.int? = some j → Fin G (RelV2 G pn) W φ L H Q (binInt op i j L) → α) : α := by
  unfold binV at f
  cases ei : x.int? with
  | some i =>
    cases ej : y.int? with
    | some j =>
      simp only [ei, ej] at f
      exact k i j ei ej f
    | none =>
      exfalso
      simp only [ei, ej] at f
      cases op <;> first | exact hop rfl | exact hop2 rfl | exact f.elim
  | none =>
    exfalso
    cases ej : y.int? with
    | some j =>
      simp only [ei, ej] at f
      cases op <;> first | exact hop rfl | exact hop2 rfl | exact f.elim
    | none =>
      simp only [ei, ej] at f
      cases op <;> first | exact hop rfl | exact hop2 rfl | exact f.elim
/-- an operator that Python has -/
def OpB.py : OpB → Operator
  | .add => .Add
  | .sub => .Sub
  | .mul => .Mult
  | .fdiv => .FloorDiv
  | .mod => .Mod
  | .pow => .Pow
  | .shl => .LShift
  | .shr => .RShift
  | .band => .BitAnd
  | .bor => .BitOr
theorem ok_int (own : Bool) (op : OpB) (hop : op ≠ .add) (hop2 : op ≠ .mul) : OpR X (binaryOp op.py) (rd2 G pn (binV op own)) := by
  intro pins s σ H v u w z Q I rv ru h
  obtain ⟨W, φ, L, x, y, hR, rx, ry, f⟩ := h
  refine binV_ints hop hop2 f fun i j ei ej f => ?_
  obtain ⟨rfl, _⟩ := RV.int rx ei
  obtain ⟨rfl, _⟩ := RV.int ry ej
  have step : ∀ {c : Prop} [Decidable c] {r : Int}, Fin G (RelV2 G pn) W φ L H Q (if c then .ok (.val (.int r)) L else .stuck) → c ∧ Q (.int r) H := fun {c} _ {r} f => by
    by_cases hc : c
    · rw [if_pos hc] at f
      exact ⟨hc, fin_val hR f rfl⟩
    · rw [if_neg hc] at f
      exact f.elim
  cases op with
  | add => exact absurd rfl hop
  | mul => exact absurd rfl hop2
  | sub => exact op_sub pins s σ H _ _ w z Q I rv ru ⟨i, j, rfl, rfl, fin_val hR f rfl⟩
  | fdiv =>
    obtain ⟨hc, q⟩ := step f
    exact op_fdiv pins s σ H _ _ w z Q I rv ru ⟨i, j, rfl, rfl, hc, q⟩
  | mod =>
    obtain ⟨hc, q⟩ := step f
    exact op_mod pins s σ H _ _ w z Q I rv ru ⟨i, j, rfl, rfl, hc, q⟩
  | pow =>
    obtain ⟨hc, q⟩ := step f
    simp only [powOk, Bool.and_eq_true, decide_eq_true_eq] at hc
    exact op_pow pins s σ H _ _ w z Q I rv ru ⟨i, j, rfl, rfl, ⟨hc.1.1, hc.1.2, hc.2⟩, q⟩
  | shl =>
    obtain ⟨hc, q⟩ := step f
    simp only [powOk, Bool.and_eq_true, decide_eq_true_eq] at hc
    exact op_shl pins s σ H _ _ w z Q I rv ru ⟨i, j, rfl, rfl, ⟨hc.1.1, hc.1.2, hc.2⟩, q⟩
  | shr =>
    obtain ⟨hc, q⟩ := step f
    exact op_shr pins s σ H _ _ w z Q I rv ru ⟨i, j, rfl, rfl, hc, q⟩
  | band => exact f.elim
  | bor => exact f.elim
theorem ok_mul (own : Bool) : OpR X (binaryOp .Mult) (rd2 G pn (binV .mul own)) := by
  intro pins s σ H v u w z Q I rv ru h
  obtain ⟨W, φ, L, x, y, hR, rx, ry, f⟩ := h
  unfold binV at f
  cases ei : x.int? with
  | some i =>
    cases ej : y.int? with
    | some j =>
      simp only [ei, ej, binInt] at f
      obtain ⟨rfl, _⟩ := RV.int rx ei
      obtain ⟨rfl, _⟩ := RV.int ry ej
      by_cases hc : mulOk i j = true
      · rw [if_pos hc] at f
        simp only [mulOk, Bool.or_eq_true, Bool.and_eq_true, decide_eq_true_eq] at hc
        exact op_mul pins s σ H _ _ w z Q I rv ru ⟨i, j, rfl, rfl, hc, fin_val hR f rfl⟩
      · rw [if_neg hc] at f
        exact f.elim
    | none =>
      simp only [ei, ej] at f
      exact f.elim
  | none =>
    cases ej : y.int? with
    | none =>
      simp only [ei, ej] at f
      exact f.elim
    | some k =>
      simp only [ei, ej] at f
      obtain ⟨rfl, _⟩ := RV.int ry ej
      have lists : Fin G (RelV2 G pn) W φ L H Q (match x.lst? L with
          | some xs => if (kOk k && decide (xs.length * k.toNat ≤ lim)) = true then newL own (rep xs k) L else .stuck
          | none => .stuck) → wpAny (model X.prog X.w) X.A (binaryOp .Mult w z) (EP X pins σ Q) X.xe s := fun f => by
        cases e1 : x.lst? L with
        | none =>
          rw [e1] at f
          exact f.elim
        | some xs =>
          simp only [e1] at f
          by_cases hc : (kOk k && decide (xs.length * k.toNat ≤ lim)) = true
          · rw [if_pos hc] at f
            simp only [kOk, Bool.and_eq_true, decide_eq_true_eq] at hc
            obtain ⟨a, vs, rfl, la, ra⟩ := RV.lst hR rx e1
            obtain ⟨g1, g2⟩ := fin_newL hR f (ra.repl k.toNat)
            exact op_repR pins s σ H _ _ w z Q I rv ru ⟨a, k, vs, rfl, rfl, la, hc.1.1, hc.1.2, by rw [← ra.len, ← lim_eq]; exact hc.2, g2⟩
          · rw [if_neg hc] at f
            exact f.elim
      cases x with
      | val d =>
        cases d with
        | str a =>
          obtain ⟨rfl, c1, l1⟩ := (show _ = V.str _ ∧ _ from rx)
          by_cases hc : kOk k = true
          · simp only [hc, if_true] at f
            simp only [kOk, Bool.and_eq_true, decide_eq_true_eq] at hc
            obtain ⟨g1, g2⟩ := fin_newS hR f (fun c hm => by
              unfold rep at hm
              obtain ⟨l, hl, hm⟩ := List.mem_flatten.mp hm
              rw [(List.mem_replicate.mp hl).2] at hm
              exact c1 c hm)
            exact op_mulStr pins s σ H _ _ w z Q I rv ru ⟨a, k, rfl, rfl, hc.1, hc.2, g1, g2⟩
          · simp only [hc] at f
            exact f.elim
        | _ => exact lists f
      | ref n => exact lists f
      | exn C fs => exact lists f
end
end PI

set_option maxRecDepth 100000
set_option maxHeartbeats 1000000
namespace PI
open PySem PySem.Spec PyProof.Rows L2

mutual
theorem eqv_py : ∀ a b : D, okd' a = true → okd' b = true → PyData.eqv a.py b.py = a.eqv b
  | .non, b, _, h => by cases b <;> first | (simp [D.py, PyData.eqv, D.eqv]; done) | (simp [okd'] at h)
  | .bl x, b, _, h => by cases b <;> first | (simp [D.py, PyData.eqv, D.eqv]; done) | (simp [okd'] at h)
  | .int x, b, _, h => by cases b <;> first | (simp [D.py, PyData.eqv, D.eqv]; done) | (simp [okd'] at h)
  | .str x, b, _, h => by
    cases b with
    | str y =>
      simp only [D.py, PyData.eqv, D.eqv]
      by_cases e : x = y
      · subst e; simp
      · have h1 : (x == y) = false := by simpa using e
        rw [h1]
        have : ¬ ((⟨x.toArray⟩ : Str) = ⟨y.toArray⟩) := fun z => e (by injection z with z; simpa using z)
        simpa using this
    | _ => first | (simp [D.py, PyData.eqv, D.eqv]; done) | (simp [okd'] at h)
  | .tup xs, b, h1, h2 => by
    cases b with
    | tup ys =>
      simp only [D.py, PyData.eqv, D.eqv]
      exact eqvs_py xs ys h1 h2
    | _ => first | (simp [D.py, PyData.eqv, D.eqv]; done) | (simp [okd'] at h2)
  | .lst xs, b, h1, h2 => by
    cases b with
    | lst ys =>
      simp only [D.py, PyData.eqv, D.eqv]
      exact eqvs_py xs ys h1 h2
    | _ => first | (simp [D.py, PyData.eqv, D.eqv]; done) | (simp [okd'] at h2)
  | .dct _, b, h, _ => by simp [okd'] at h
  | .ins _ _, b, h, _ => by simp [okd'] at h
theorem eqvs_py : ∀ a b : List D, okds' a = true → okds' b = true → PyData.eqvAll (D.pys a) (D.pys b) = D.eqvs a b
  | [], [], _, _ => rfl
  | [], y :: ys, _, _ => rfl
  | x :: xs, [], _, _ => rfl
  | x :: xs, y :: ys, h1, h2 => by
    simp only [okds', Bool.and_eq_true] at h1 h2
    simp only [D.pys, PyData.eqvAll, D.eqvs]
    rw [eqv_py x y h1.1 h2.1, eqvs_py xs ys h1.2 h2.2]
end
mutual
theorem okd_plain : ∀ (n : Nat) (d : D), D.okd n d = true → okd' d = true
  | _, .non, _ => rfl
  | _, .bl _, _ => rfl
  | _, .int _, _ => rfl
  | _, .str _, _ => rfl
  | 0, .tup _, h => by simp [D.okd] at h
  | 0, .lst _, h => by simp [D.okd] at h
  | n + 1, .tup xs, h => okds_plain n xs (by simpa [D.okd] using h)
  | n + 1, .lst xs, h => okds_plain n xs (by simpa [D.okd] using h)
  | _, .dct _, h => by simp [D.okd] at h
  | _, .ins _ _, h => by simp [D.okd] at h
theorem okds_plain : ∀ (n : Nat) (ds : List D), D.okds n ds = true → okds' ds = true
  | _, [], _ => rfl
  | n, x :: xs, h => by
    simp only [D.okds, Bool.and_eq_true] at h
    simp only [okds', Bool.and_eq_true]
    exact ⟨okd_plain n x h.1, okds_plain n xs h.2⟩
end
mutual
theorem okd_depth : ∀ (n : Nat) (d : D), D.okd n d = true → d.py.depth ≤ n
  | _, .non, _ => by simp [D.py, PyData.depth]
  | _, .bl _, _ => by simp [D.py, PyData.depth]
  | _, .int _, _ => by simp [D.py, PyData.depth]
  | _, .str _, _ => by simp [D.py, PyData.depth]
  | 0, .tup _, h => by simp [D.okd] at h
  | 0, .lst _, h => by simp [D.okd] at h
  | n + 1, .tup xs, h => by
    have := okds_depth n xs (by simpa [D.okd] using h)
    simp only [D.py, PyData.depth]
    omega
  | n + 1, .lst xs, h => by
    have := okds_depth n xs (by simpa [D.okd] using h)
    simp only [D.py, PyData.depth]
    omega
  | _, .dct _, h => by simp [D.okd] at h
  | _, .ins _ _, h => by simp [D.okd] at h
theorem okds_depth : ∀ (n : Nat) (ds : List D), D.okds n ds = true → PyData.depthAll (D.pys ds) ≤ n
  | _, [], _ => by simp [D.pys, PyData.depthAll]
  | n, x :: xs, h => by
    simp only [D.okds, Bool.and_eq_true] at h
    have h1 := okd_depth n x h.1
    have h2 := okds_depth n xs h.2
    simp only [D.pys, PyData.depthAll]
    omega
end
section
variable {G : Gd} {O : Addr → Prop} {H : Hp}
theorem strOk_of {s : List Nat} (h : ∀ c ∈ s, c < 0x110000) : PyData.strOk ⟨s.toArray⟩ = true := by
  unfold PyData.strOk
  simpa using h
mutual
theorem RD.lay : ∀ (d : D) (v : V), RD G O H d v → okd' d = true → d.py.canLay0 = true
  | .non, _, _, _ => by simp [D.py, PyData.canLay0]
  | .bl _, _, _, _ => by simp [D.py, PyData.canLay0]
  | .int _, _, _, _ => by simp [D.py, PyData.canLay0]
  | .str s, _, h, _ => by
    obtain ⟨_, hc, _⟩ := h
    simp only [D.py, PyData.canLay0]
    exact strOk_of hc
  | .tup xs, _, h, k => by
    obtain ⟨a, vs, _, _, r⟩ := h
    simp only [D.py, PyData.canLay0]
    exact RDs.lay xs vs r k
  | .lst xs, _, h, k => by
    obtain ⟨a, vs, _, _, r⟩ := h
    simp only [D.py, PyData.canLay0]
    exact RDs.lay xs vs r k
  | .dct _, _, _, k => by simp [okd'] at k
  | .ins _ _, _, _, k => by simp [okd'] at k
theorem RDs.lay : ∀ (ds : List D) (vs : List V), RDs G O H ds vs → okds' ds = true → PyData.canLayAll0 (D.pys ds) = true
  | [], _, _, _ => rfl
  | x :: xs, _, h, k => by
    obtain ⟨v, r, _, h1, h2⟩ := h
    simp only [okds', Bool.and_eq_true] at k
    simp only [D.pys, PyData.canLayAll0, Bool.and_eq_true]
    exact ⟨RD.lay x v h1 k.1, RDs.lay xs r h2 k.2⟩
end
mutual
theorem RD.dp : ∀ (d : D) (v : V), RD G O H d v → okd' d = true → Dp G.K H v d.py
  | .non, _, h, _ => by cases (show _ = V.non from h); exact .non
  | .bl b, _, h, _ => by cases (show _ = V.bl b from h); exact .bl b
  | .int i, _, h, _ => by cases (show _ = V.int i from h); exact .int i
  | .str s, _, h, _ => by
    obtain ⟨e, _, _⟩ := h
    subst e
    exact .str _
  | .tup xs, _, h, k => by
    obtain ⟨a, vs, e, t, r⟩ := h
    subst e
    exact .tup t.sq (RDs.dp xs vs r k)
  | .lst xs, _, h, k => by
    obtain ⟨a, vs, e, t, r⟩ := h
    subst e
    exact .lst t.sq (RDs.dp xs vs r k)
  | .dct _, _, _, k => by simp [okd'] at k
  | .ins _ _, _, _, k => by simp [okd'] at k
theorem RDs.dp : ∀ (ds : List D) (vs : List V), RDs G O H ds vs → okds' ds = true → DpAll G.K H vs (D.pys ds)
  | [], _, h, _ => by cases (show _ = [] from h); exact .nil
  | x :: xs, _, h, k => by
    obtain ⟨v, r, e, h1, h2⟩ := h
    subst e
    simp only [okds', Bool.and_eq_true] at k
    exact .cons (RD.dp x v h1 k.1) (RDs.dp xs r h2 k.2)
end
end
section
variable {G : Gd} {pn : Pn} {φ : List Addr} {L : LH} {H : Hp} {Q : VK} {X : Cx}
/-- a value seen as data -/
theorem RV.view (h : HR G φ L H) {x : V2} {v : V} {d : D} (r : RV G pn φ (Own G φ L) H x v) (e : x.view L = some d) (k : okd d = true) : Dp G.K H v d.py ∧ SeqAt.shaped d.py = true := by
  have pl := okd_plain 60 d k
  have dep := okd_depth 60 d k
  have sh : d.py.canLay0 = true → SeqAt.shaped d.py = true := fun z => by
    show (d.py.canLay0 && decide (d.py.depth ≤ 64)) = true
    rw [z, decide_eq_true (by omega)]
    rfl
  cases x with
  | val d' =>
    simp [V2.view] at e
    subst e
    exact ⟨RD.dp _ v r pl, sh (RD.lay _ v r pl)⟩
  | ref n =>
    cases hn : L[n]? with
    | none => simp [V2.view, hn] at e
    | some o =>
      cases o with
      | lst xs =>
        simp [V2.view, hn] at e
        subst e
        obtain ⟨a, vs, rfl, _, ha, rs⟩ := RV.own h r hn
        have pl' : okds' xs = true := pl
        refine ⟨.lst (SqL.of ha) (RDs.dp xs vs rs pl'), sh ?_⟩
        simp only [D.py, PyData.canLay0]
        exact RDs.lay xs vs rs pl'
      | _ => simp [V2.view, hn] at e
  | exn C fs => simp [V2.view] at e

theorem ok_eq (hX : X.K = G.K) (hu : X.A.units + 64 < cLine) : OpR X (compareOp .Eq) (rd2 G pn (cmpR .eq)) := by
  intro pins s σ H v u w z Q I rv ru h
  obtain ⟨W, φ, L, x, y, hR, rx, ry, f⟩ := h
  unfold cmpR cmpV cmpEq at f
  cases ex : x.view L with
  | none => simp only [ex] at f; exact f.elim
  | some a =>
    cases ey : y.view L with
    | none => simp only [ex, ey] at f; exact f.elim
    | some b =>
      simp only [ex, ey] at f
      by_cases k : (okd a && okd b) = true
      · rw [if_pos k] at f
        obtain ⟨k1, k2⟩ := Bool.and_eq_true_iff.mp k
        obtain ⟨d1, s1⟩ := RV.view hR rx ex k1
        obtain ⟨d2, s2⟩ := RV.view hR ry ey k2
        refine op_eqD hu pins s σ H v u w z Q I rv ru ⟨_, _, by rw [hX]; exact d1, by rw [hX]; exact d2, s1, s2, ?_⟩
        rw [eqv_py a b (okd_plain 60 a k1) (okd_plain 60 b k2)]
        exact fin_val hR f rfl
      · rw [if_neg k] at f
        exact f.elim
theorem ok_ne (hX : X.K = G.K) (hu : X.A.units + 64 < cLine) : OpR X (compareOp .NotEq) (rd2 G pn (cmpR .ne)) := by
  intro pins s σ H v u w z Q I rv ru h
  obtain ⟨W, φ, L, x, y, hR, rx, ry, f⟩ := h
  unfold cmpR cmpV cmpEq at f
  cases ex : x.view L with
  | none => simp only [ex] at f; exact f.elim
  | some a =>
    cases ey : y.view L with
    | none => simp only [ex, ey] at f; exact f.elim
    | some b =>
      simp only [ex, ey] at f
      by_cases k : (okd a && okd b) = true
      · rw [if_pos k] at f
        obtain ⟨k1, k2⟩ := Bool.and_eq_true_iff.mp k
        obtain ⟨d1, s1⟩ := RV.view hR rx ex k1
        obtain ⟨d2, s2⟩ := RV.view hR ry ey k2
        refine op_neD hu pins s σ H v u w z Q I rv ru ⟨_, _, by rw [hX]; exact d1, by rw [hX]; exact d2, s1, s2, ?_⟩
        rw [eqv_py a b (okd_plain 60 a k1) (okd_plain 60 b k2)]
        exact fin_val hR f rfl
      · rw [if_neg k] at f
        exact f.elim
theorem ok_lt4 (op : OpC) (o : CmpOp) (ho : o = (match op with | .lt => CmpOp.Lt | .le => .LtE | .gt => .Gt | _ => .GtE)) (hop : op = .lt ∨ op = .le ∨ op = .gt ∨ op = .ge) : OpR X (compareOp o) (rd2 G pn (cmpR op)) := by
  intro pins s σ H v u w z Q I rv ru h
  obtain ⟨W, φ, L, x, y, hR, rx, ry, f⟩ := h
  have f2 : Fin G (RelV2 G pn) W φ L H Q (match cmpLt op x y with | some b => .ok (.val (.bl b)) L | none => .stuck) := by
    rcases hop with e | e | e | e <;> (subst e; exact f)
  cases x with
  | val a =>
    cases y with
    | val b =>
      cases a with
      | int i =>
        cases b with
        | int j =>
          cases (show v = V.int i from rx)
          cases (show u = V.int j from ry)
          rcases hop with e | e | e | e
          · subst e; subst ho; exact op_lt pins s σ H _ _ w z Q I rv ru ⟨i, j, rfl, rfl, fin_val hR f2 rfl⟩
          · subst e; subst ho; exact op_le pins s σ H _ _ w z Q I rv ru ⟨i, j, rfl, rfl, fin_val hR f2 rfl⟩
          · subst e; subst ho; exact op_gt pins s σ H _ _ w z Q I rv ru ⟨i, j, rfl, rfl, fin_val hR f2 rfl⟩
          · subst e; subst ho; exact op_ge pins s σ H _ _ w z Q I rv ru ⟨i, j, rfl, rfl, fin_val hR f2 rfl⟩
        | _ => exact f2.elim
      | str a =>
        cases b with
        | str b =>
          obtain ⟨rfl, _, _⟩ := (show _ = V.str _ ∧ _ from rx)
          obtain ⟨rfl, _, _⟩ := (show _ = V.str _ ∧ _ from ry)
          rcases hop with e | e | e | e
          · subst e; subst ho
            refine op_lt_str pins s σ H _ _ w z Q I rv ru ⟨_, _, rfl, rfl, ?_⟩
            have q := fin_val hR f2 (show RD G (Own G φ L) H (.bl (strLt a b)) _ from rfl)
            exact q
          · subst e; exact f2.elim
          · subst e; exact f2.elim
          · subst e; exact f2.elim
        | _ => exact f2.elim
      | _ => exact f2.elim
    | ref n => cases a <;> exact f2.elim
    | exn C fs => cases a <;> exact f2.elim
  | ref n => exact f2.elim
  | exn C fs => exact f2.elim

theorem isNon {x : V2} {v : V} (r : RV G pn φ (Own G φ L) H x v) : x.isNon = decide (v = .non) := by
  cases x with
  | val d =>
    cases d with
    | non => cases (show v = V.non from r); rfl
    | bl b => cases (show v = V.bl b from r); rfl
    | int b => cases (show v = V.int b from r); rfl
    | str s => obtain ⟨rfl, _⟩ := (show _ = V.str _ ∧ _ from r); rfl
    | tup xs => obtain ⟨a, vs, rfl, _⟩ := r; rfl
    | lst xs => obtain ⟨a, vs, rfl, _⟩ := r; rfl
    | dct xs => obtain ⟨a, vs, rfl, _⟩ := r; rfl
    | ins C xs => obtain ⟨a, dx, gs, rfl, _⟩ := r; rfl
  | ref n => obtain ⟨a, rfl, _⟩ := r; rfl
  | exn C fs => obtain ⟨a, oe, d, gs, rfl, _⟩ := r; rfl
theorem isOther {x : V2} {v : V} {w : Value} (r : RV G pn φ (Own G φ L) H x v) (rv : RelV v w) (b : Bool) : x.isBl b = decide (w = .bool b) := by
  have no : ∀ {w : Value}, w ≠ .bool b → false = decide (w = .bool b) := fun h => (decide_eq_false h).symm
  cases x with
  | val d =>
    cases d with
    | non => cases (show v = V.non from r); cases (show w = Value.none from rv); exact no (by intro z; cases z)
    | bl a =>
      cases (show v = V.bl a from r)
      cases (show w = Value.bool a from rv)
      cases a <;> cases b <;> rfl
    | int i => cases (show v = V.int i from r); obtain ⟨t, rfl⟩ := rv; exact no (by intro z; cases z)
    | str s => obtain ⟨rfl, _⟩ := (show _ = V.str _ ∧ _ from r); obtain ⟨t, rfl⟩ := rv; exact no (by intro z; cases z)
    | tup xs => obtain ⟨a, vs, rfl, _⟩ := r; cases (show w = Value.ref a from rv); exact no (by intro z; cases z)
    | lst xs => obtain ⟨a, vs, rfl, _⟩ := r; cases (show w = Value.ref a from rv); exact no (by intro z; cases z)
    | dct xs => obtain ⟨a, vs, rfl, _⟩ := r; cases (show w = Value.ref a from rv); exact no (by intro z; cases z)
    | ins C xs => obtain ⟨a, dx, gs, rfl, _⟩ := r; cases (show w = Value.ref a from rv); exact no (by intro z; cases z)
  | ref n => obtain ⟨a, rfl, _⟩ := r; cases (show w = Value.ref a from rv); exact no (by intro z; cases z)
  | exn C fs => obtain ⟨a, oe, d, gs, rfl, _⟩ := r; cases (show w = Value.ref a from rv); exact no (by intro z; cases z)
theorem cmpIs_cases {x y : V2} {b : Bool} (h : cmpIs x y = some b) : (y = .val .non ∧ b = x.isNon) ∨ ∃ c, y = .val (.bl c) ∧ b = x.isBl c := by
  cases y with
  | val d =>
    cases d with
    | non => exact .inl ⟨rfl, (Option.some.inj h).symm⟩
    | bl c => exact .inr ⟨c, rfl, (Option.some.inj h).symm⟩
    | _ => simp [cmpIs] at h
  | ref n => simp [cmpIs] at h
  | exn C fs => simp [cmpIs] at h
theorem relV_nb {v : V} {w : Value} (r : RelV v w) (id : String) : w ≠ .builtin id := by
  intro e
  subst e
  cases v with
  | non => cases r
  | bl b => cases r
  | int i => obtain ⟨t, e⟩ := r; cases e
  | str x => obtain ⟨t, e⟩ := r; cases e
  | byt x => obtain ⟨t, e⟩ := r; cases e
  | flt x => obtain ⟨t, e⟩ := r; cases e
  | ref a => cases r
  | ty n => cases r
theorem isBoolOther {M : Model} {A : Around} {E : Value → Shared → Prop} {s : Shared} {Q : Value → Shared → Prop} {w : Value} {c : Bool} (hb : ∀ id, w ≠ .builtin id) (hw : w ≠ .bool c) (h : Q (.bool false) s) : wpAny M A (compareOp .Is w (.bool c)) Q E s := by
  cases w with
  | bool b => exact wpAny_is_other rfl hw h
  | builtin id => exact absurd rfl (hb id)
  | _ => exact wpAny_pure h
theorem isNotBoolOther {M : Model} {A : Around} {E : Value → Shared → Prop} {s : Shared} {Q : Value → Shared → Prop} {w : Value} {c : Bool} (hb : ∀ id, w ≠ .builtin id) (hw : w ≠ .bool c) (h : Q (.bool true) s) : wpAny M A (compareOp .IsNot w (.bool c)) Q E s := by
  cases w with
  | bool b => exact wpAny_isNot_other rfl hw h
  | builtin id => exact absurd rfl (hb id)
  | _ => exact wpAny_pure h
theorem ok_is : OpR X (compareOp .Is) (rd2 G pn (cmpR .is)) := by
  intro pins s σ H v u w z Q I rv ru h
  obtain ⟨W, φ, L, x, y, hR, rx, ry, f⟩ := h
  unfold cmpR cmpV at f
  cases e : cmpIs x y with
  | none => simp only [e] at f; exact f.elim
  | some b =>
    simp only [e] at f
    have q := fin_val hR f (show RD G (Own G φ L) H (.bl b) (.bl b) from rfl)
    rcases cmpIs_cases e with ⟨rfl, hb⟩ | ⟨c, rfl, hb⟩
    · cases (show u = V.non from ry)
      refine op_isN pins s σ H _ _ w z Q I rv ru ⟨rfl, ?_⟩
      rw [← isNon rx, ← hb]
      exact q
    · cases (show u = V.bl c from ry)
      cases (show z = Value.bool c from ru)
      have hb2 := hb.trans (isOther rx rv c)
      by_cases hw : w = .bool c
      · subst hw
        rw [decide_eq_true rfl] at hb2
        subst hb2
        exact wpAny_is_self rfl ⟨.bl true, H, I, rfl, q⟩
      · rw [decide_eq_false hw] at hb2
        subst hb2
        exact isBoolOther (relV_nb rv) hw ⟨.bl false, H, I, rfl, q⟩
theorem ok_isNot : OpR X (compareOp .IsNot) (rd2 G pn (cmpR .isNot)) := by
  intro pins s σ H v u w z Q I rv ru h
  obtain ⟨W, φ, L, x, y, hR, rx, ry, f⟩ := h
  unfold cmpR cmpV at f
  cases e : cmpIs x y with
  | none => simp only [e] at f; exact f.elim
  | some b =>
    simp only [e] at f
    have q := fin_val hR f (show RD G (Own G φ L) H (.bl (!b)) (.bl (!b)) from rfl)
    rcases cmpIs_cases e with ⟨rfl, hb⟩ | ⟨c, rfl, hb⟩
    · cases (show u = V.non from ry)
      refine op_notN pins s σ H _ _ w z Q I rv ru ⟨rfl, ?_⟩
      rw [← isNon rx, ← hb]
      exact q
    · cases (show u = V.bl c from ry)
      cases (show z = Value.bool c from ru)
      have hb2 := hb.trans (isOther rx rv c)
      by_cases hw : w = .bool c
      · subst hw
        rw [decide_eq_true rfl] at hb2
        subst hb2
        exact wpAny_isNot_self rfl ⟨.bl false, H, I, rfl, q⟩
      · rw [decide_eq_false hw] at hb2
        subst hb2
        exact isNotBoolOther (relV_nb rv) hw ⟨.bl true, H, I, rfl, q⟩
theorem inD_any {x : D} (kx : okd' x = true) : ∀ {xs : List D}, okds' xs = true → (D.pys xs).any (fun y => PyData.eqv y x.py) = inD x xs
  | [], _ => rfl
  | y :: r, k => by
    simp only [okds', Bool.and_eq_true] at k
    simp only [D.pys, List.any_cons, inD]
    rw [eqv_py y x k.1 kx, inD_any kx k.2]
theorem RV.viewSeq (h : HR G φ L H) {y : V2} {u : V} {xs : List D} (r : RV G pn φ (Own G φ L) H y u) (e : y.seq? L = some xs) (k : D.okds 59 xs = true) :
    (Dp G.K H u (.list (D.pys xs)) ∨ Dp G.K H u (.tuple (D.pys xs))) ∧ SeqAt.shaped (.list (D.pys xs)) = true := by
  have pl := okds_plain 59 xs k
  have dep := okds_depth 59 xs k
  obtain ⟨a, vs, rfl, t, rs⟩ := RV.seq h r e
  refine ⟨?_, ?_⟩
  · rcases t with t | t
    · exact .inl (.lst (.inl t) (RDs.dp xs vs rs pl))
    · exact .inr (.tup t (RDs.dp xs vs rs pl))
  · show (PyData.canLay0 (.list (D.pys xs)) && decide (PyData.depth (.list (D.pys xs)) ≤ 64)) = true
    have h1 : PyData.canLay0 (.list (D.pys xs)) = true := by
      simp only [PyData.canLay0]
      exact RDs.lay xs vs rs pl
    have h2 : PyData.depth (.list (D.pys xs)) ≤ 64 := by
      simp only [PyData.depth]
      omega
    rw [h1, decide_eq_true h2]
    rfl
theorem cmpIn_cases {x y : V2} {b : Bool} (h : cmpIn x y L = some b) : (∃ s t, x.view L = some (.str s) ∧ y = .val (.str t) ∧ b = strIn s t) ∨ ∃ a xs, x.view L = some a ∧ y.seq? L = some xs ∧ okd a = true ∧ D.okds 59 xs = true ∧ b = inD a xs := by
  unfold cmpIn at h
  cases e : x.view L with
  | none => simp [e] at h
  | some a =>
    have gen : (match y.seq? L with
        | some xs => if (okd a && D.okds 59 xs) = true then some (inD a xs) else none
        | none => none) = some b → ∃ a' xs, (some a : Option D) = some a' ∧ y.seq? L = some xs ∧ okd a' = true ∧ D.okds 59 xs = true ∧ b = inD a' xs := fun h => by
      cases q : y.seq? L with
      | none => simp [q] at h
      | some xs =>
        simp only [q] at h
        by_cases k : (okd a && D.okds 59 xs) = true
        · rw [if_pos k] at h
          obtain ⟨k1, k2⟩ := Bool.and_eq_true_iff.mp k
          exact ⟨a, xs, rfl, rfl, k1, k2, (Option.some.inj h).symm⟩
        · rw [if_neg k] at h; cases h
    cases a with
    | str s =>
      cases y with
      | val d =>
        cases d with
        | str t =>
          simp only [e] at h
          exact .inl ⟨s, t, rfl, rfl, (Option.some.inj h).symm⟩
        | _ => simp only [e] at h; exact .inr (gen h)
      | ref n => simp only [e] at h; exact .inr (gen h)
      | exn C fs => simp only [e] at h; exact .inr (gen h)
    | _ => simp only [e] at h; exact .inr (gen h)
theorem view_str {x : V2} {s : List Nat} (e : x.view L = some (.str s)) : x = .val (.str s) := by
  cases x with
  | val d => simp [V2.view] at e; rw [e]
  | ref n =>
    cases q : L[n]? with
    | none => simp [V2.view, q] at e
    | some o => cases o <;> simp [V2.view, q] at e
  | exn C fs => simp [V2.view] at e
theorem ok_in (hX : X.K = G.K) (hu : X.A.units + 64 < cLine) (neg : Bool) : OpR X (compareOp (if neg then .NotIn else .In)) (rd2 G pn (cmpR (if neg then .notIn else .in_))) := by
  intro pins s σ H v u w z Q I rv ru h
  obtain ⟨W, φ, L, x, y, hR, rx, ry, f⟩ := h
  have f2 : Fin G (RelV2 G pn) W φ L H Q (match (cmpIn x y L).map (fun b => if neg then !b else b) with | some b => .ok (.val (.bl b)) L | none => .stuck) := by
    cases neg
    · have e : (cmpIn x y L).map (fun b => if false = true then !b else b) = cmpIn x y L := by cases cmpIn x y L <;> rfl
      rw [e]
      exact f
    · exact f
  cases e : cmpIn x y L with
  | none => rw [e] at f2; exact f2.elim
  | some b =>
    rw [e] at f2
    have q := fin_val hR f2 (show RD G (Own G φ L) H (.bl (if neg then !b else b)) (.bl (if neg then !b else b)) from rfl)
    rcases cmpIn_cases e with ⟨a, t, ex, rfl, rfl⟩ | ⟨a, xs, ex, ey, k1, k2, rfl⟩
    · have ex' := view_str ex
      subst ex'
      obtain ⟨rfl, _⟩ := (show _ = V.str _ ∧ _ from rx)
      obtain ⟨rfl, _⟩ := (show _ = V.str _ ∧ _ from ry)
      have lt : (⟨t.toArray⟩ : Str).length = t.length := by simp [Str.length]
      cases neg
      · refine op_in_str pins s σ H _ _ w z Q I rv ru ⟨_, _, rfl, rfl, ?_⟩
        rw [lt]
        exact q
      · refine op_notin_str pins s σ H _ _ w z Q I rv ru ⟨_, _, rfl, rfl, ?_⟩
        rw [lt]
        exact q
    · obtain ⟨d1, s1⟩ := RV.view hR rx ex k1
      obtain ⟨d2, s2⟩ := RV.viewSeq hR ry ey k2
      have an := inD_any (okd_plain 60 a k1) (okds_plain 59 xs k2)
      obtain ⟨as, r1⟩ := Dp.reads I _ v w (by rw [hX]; exact d1) rv
      have room : X.A.units + 1 + min (PyData.depthAll (D.pys xs)) a.py.depth < cLine := by
        have := okd_depth 60 a k1
        have : min (PyData.depthAll (D.pys xs)) a.py.depth ≤ a.py.depth := Nat.min_le_right _ _
        omega
      have c2 : PyData.canLayAll0 (D.pys xs) = true := by
        have := SeqAt.canLay_of_shaped s2
        simpa [PyData.canLay0] using this
      have hq : EP X pins σ Q (.bool (if neg then !(D.pys xs).any (fun y => PyData.eqv y a.py) else (D.pys xs).any fun y => PyData.eqv y a.py)) s := by
        rw [an]
        exact ⟨.bl _, H, I, rfl, q⟩
      rcases d2 with d2 | d2
      · obtain ⟨bs, r2⟩ := Dp.reads I _ u z (by rw [hX]; exact d2) ru
        cases neg
        · exact SeqAt.in_list_reads r2 r1 c2 (SeqAt.canLay_of_shaped s1) room hq
        · exact SeqAt.notIn_list_reads r2 r1 c2 (SeqAt.canLay_of_shaped s1) room hq
      · obtain ⟨bs, r2⟩ := Dp.reads I _ u z (by rw [hX]; exact d2) ru
        cases neg
        · exact SeqAt.in_tuple_reads r2 r1 c2 (SeqAt.canLay_of_shaped s1) room hq
        · exact SeqAt.notIn_tuple_reads r2 r1 c2 (SeqAt.canLay_of_shaped s1) room hq
/-- a comparison that Python has -/
def OpC.py : OpC → CmpOp
  | .eq => .Eq
  | .ne => .NotEq
  | .lt => .Lt
  | .le => .LtE
  | .gt => .Gt
  | .ge => .GtE
  | .is => .Is
  | .isNot => .IsNot
  | .in_ => .In
  | .notIn => .NotIn
theorem ok_cmp (hX : X.K = G.K) (hu : X.A.units + 64 < cLine) (op : OpC) : OpR X (compareOp op.py) (rd2 G pn (cmpR op)) := by
  cases op with
  | eq => exact ok_eq hX hu
  | ne => exact ok_ne hX hu
  | lt => exact ok_lt4 .lt _ rfl (.inl rfl)
  | le => exact ok_lt4 .le _ rfl (.inr (.inl rfl))
  | gt => exact ok_lt4 .gt _ rfl (.inr (.inr (.inl rfl)))
  | ge => exact ok_lt4 .ge _ rfl (.inr (.inr (.inr rfl)))
  | is => exact ok_is
  | isNot => exact ok_isNot
  | in_ => exact ok_in hX hu false
  | notIn => exact ok_in hX hu true
theorem ok_bin (hX : X.K = G.K) (own : Bool) (op : OpB) : OpR X (binaryOp op.py) (rd2 G pn (binV op own)) := by
  cases op with
  | add => exact ok_add hX own
  | mul => exact ok_mul own
  | sub => exact ok_int own .sub (by decide) (by decide)
  | fdiv => exact ok_int own .fdiv (by decide) (by decide)
  | mod => exact ok_int own .mod (by decide) (by decide)
  | pow => exact ok_int own .pow (by decide) (by decide)
  | shl => exact ok_int own .shl (by decide) (by decide)
  | shr => exact ok_int own .shr (by decide) (by decide)
  | band => exact ok_int own .band (by decide) (by decide)
  | bor => exact ok_int own .bor (by decide) (by decide)
end
end PI

set_option maxRecDepth 100000
set_option maxHeartbeats 1000000
namespace PI
open PySem PySem.Spec PyProof.Rows L2

section
variable {G : Gd} {pn : Pn} {φ : List Addr} {L : LH} {H : Hp} {Q : VK} {X : Cx}
theorem RDs.at {O : Addr → Prop} {ds : List D} {vs : List V} {k : Int} {d : D} (r : RDs G O H ds vs) (e : L2.atI ds k = some d) : ∃ v, L2.atI vs k = some v ∧ RD G O H d v := by
  unfold L2.atI at e ⊢
  rw [← r.len]
  cases q : L2.ixN ds.length k with
  | none => rw [q] at e; simp at e
  | some j =>
    rw [q] at e
    simp only [Option.bind_some] at e ⊢
    exact r.get e
theorem ok_sub (hX : X.K = G.K) : IxR X (rd2 G pn subV) := by
  intro value slice pins s σ H v u w z Q I rv ru h hs
  obtain ⟨W, φ, L, x, y, hR, rx, ry, f⟩ := h
  unfold subV at f
  cases ei : y.int? with
  | none => simp only [ei] at f; exact f.elim
  | some k =>
    simp only [ei] at f
    obtain ⟨rfl, _⟩ := RV.int ry ei
    have seqs : Fin G (RelV2 G pn) W φ L H Q (match x.seq? L with
        | some xs => (match L2.atI xs k with
          | some d => .ok (.val d) L
          | none => .stuck)
        | none => .stuck) → wpAny (model X.prog X.w) X.A (subscriptTail value slice w z) (EP X pins σ Q) X.xe s := fun f => by
      cases e : x.seq? L with
      | none => rw [e] at f; exact f.elim
      | some xs =>
        simp only [e] at f
        cases ea : L2.atI xs k with
        | none => rw [ea] at f; exact f.elim
        | some d =>
          simp only [ea] at f
          obtain ⟨a, vs, rfl, t, rs⟩ := RV.seq hR rx e
          obtain ⟨v1, h1, h2⟩ := rs.at ea
          rcases t with t | t
          · exact ix_list value slice pins s σ H _ _ w z Q I rv ru ⟨a, vs, k, v1, rfl, rfl, .inl t, h1, fin_val hR f h2⟩ hs
          · exact ix_tup value slice pins s σ H _ _ w z Q I rv ru ⟨a, vs, k, v1, rfl, rfl, by rw [hX]; exact t, h1, fin_val hR f h2⟩ hs
    cases x with
    | val d =>
      cases d with
      | str a =>
        obtain ⟨rfl, hc, hl⟩ := (show _ = V.str _ ∧ _ from rx)
        cases ea : L2.atI a k with
        | none => simp only [ea] at f; exact f.elim
        | some c =>
          simp only [ea] at f
          refine ix_str value slice pins s σ H _ _ w z Q I rv ru ⟨_, k, c, rfl, rfl, ?_, ?_, ?_⟩ hs
          · show a.toArray.size ≤ sizeLine
            rw [← lim_eq]; simpa using hl
          · simpa using ea
          · have hm : c ∈ a := by
              unfold L2.atI at ea
              obtain ⟨j, _, hj⟩ := Option.bind_eq_some_iff.mp ea
              exact List.mem_of_getElem? hj
            exact fin_val hR f (show RD G (Own G φ L) H (.str [c]) _ from ⟨rfl, fun c' h' => by rw [List.mem_singleton.mp h']; exact hc c hm, (by show 1 ≤ lim; decide)⟩)
      | _ => exact seqs f
    | ref n => exact seqs f
    | exn C fs => exact seqs f
theorem cut_str (a : List Nat) (lo hi : Option Int) : cutS ⟨a.toArray⟩ lo hi = ⟨(cutD a lo hi).toArray⟩ := by
  unfold cutS cutD
  have : (⟨a.toArray⟩ : Str).length = a.length := by simp [Str.length]
  rw [this]
theorem cut_len {α : Type} (xs : List α) (lo hi : Option Int) : (cutD xs lo hi).length ≤ xs.length := by
  unfold cutD
  rw [List.length_take, List.length_drop]
  omega
theorem ok_slice (hX : X.K = G.K) (own : Bool) : SlR X (fun v lo hi H Q => ∃ (W : Nat → List (Nat × D) → List Addr → LH → Hp → Prop) (φ : List Addr) (L : LH) (x : V2), HR G φ L H ∧ RV G pn φ (Own G φ L) H x v ∧ Fin G (RelV2 G pn) W φ L H Q (sliceV own x lo hi L)) := by
  intro pins s σ H v w vl vu lo hi sl Q I rv hs pl pu h
  obtain ⟨W, φ, L, x, hR, rx, f⟩ := h
  have lists : Fin G (RelV2 G pn) W φ L H Q (match x.lst? L with
      | some xs => newL own (cutD xs lo hi) L
      | none => .stuck) → ∃ T id, typeLookup (.type T) "__getitem__" = pure (some (.builtin id)) ∧ s.TypeIs w T ∧ wpAny (model X.prog X.w) X.A (getItem w (.ref sl)) (EP X pins σ Q) X.xe s := fun f => by
    cases e : x.lst? L with
    | none => rw [e] at f; exact f.elim
    | some xs =>
      simp only [e] at f
      obtain ⟨a, vs, rfl, t, rs⟩ := RV.lst hR rx e
      exact sl_list pins s σ H _ w vl vu lo hi sl Q I rv hs pl pu ⟨a, vs, rfl, .inl t, (fin_newL hR f (rs.cut lo hi)).2⟩
  cases x with
  | val d =>
    cases d with
    | str a =>
      obtain ⟨rfl, hc, hl⟩ := (show _ = V.str _ ∧ _ from rx)
      refine sl_str pins s σ H _ w vl vu lo hi sl Q I rv hs pl pu ⟨_, rfl, by rw [← lim_eq]; show a.toArray.size ≤ lim; simpa using hl, ?_⟩
      rw [cut_str]
      refine fin_val hR f ⟨rfl, fun c hm => hc c ?_, Nat.le_trans (cut_len _ _ _) hl⟩
      unfold cutD at hm
      exact List.mem_of_mem_drop (List.mem_of_mem_take hm)
    | tup xs =>
      obtain ⟨a, vs, rfl, t, rs⟩ := rx
      have rc := rs.cut lo hi
      refine sl_tupA pins s σ H _ w vl vu lo hi sl Q I rv hs pl pu ⟨a, vs, rfl, by rw [hX]; exact t.sq, fun hw => ?_, fun hw p hp => ?_⟩
      · have e : cutD xs lo hi = xs := by
          unfold cutD
          rw [← rs.len] at hw
          rw [hw.1, hw.2]
          simp
        have f' : Fin G (RelV2 G pn) W φ L H Q (.ok (.val (.tup (cutD xs lo hi))) L) := f
        rw [e] at f'
        exact fin_val hR f' ⟨a, vs, rfl, t, rs⟩
      · obtain ⟨h1, e1⟩ := hR.lay hp (.tup (cutV vs lo hi))
        exact f φ (.ref p) _ h1 e1 ⟨p, _, rfl, .inl ⟨.inl upd_same, fun z => (hR.notOwn hp) z⟩, RDs.go e1.stp _ _ rc⟩
    | _ => exact lists f
  | ref n => exact lists f
  | exn C fs => exact lists f

theorem RVs.one {x : V2} {vs : List V} {O : Addr → Prop} (r : RVs G pn φ O H [x] vs) : ∃ v, vs = [v] ∧ RV G pn φ O H x v := by
  obtain ⟨v, q, e, h1, h2⟩ := r
  cases (show q = [] from h2)
  exact ⟨v, e, h1⟩
theorem ok_len (hX : X.K = G.K) (own : Bool) : CallR X (.builtin "len") (rdN G pn (biV own .len)) := by
  intro pins s σ H vs us Q I r h
  obtain ⟨W, φ, L, xs, hR, rx, f⟩ := h
  match xs, rx, f with
  | [], _, f => exact f.elim
  | _ :: _ :: _, _, f => exact f.elim
  | [x], rx, f =>
    obtain ⟨v, rfl, ry⟩ := RVs.one rx
    have seqs : Fin G (RelV2 G pn) W φ L H Q (match x.seq? L with
        | some ys => .ok (.val (.int ys.length)) L
        | none => .stuck) → wpAny (model X.prog X.w) X.A (PySem.call (.builtin "len") us) (EP X pins σ Q) X.xe s := fun f => by
      cases e : x.seq? L with
      | none => rw [e] at f; exact f.elim
      | some ys =>
        simp only [e] at f
        obtain ⟨a, ws, rfl, t, rs⟩ := RV.seq hR ry e
        refine call_len_seq pins s σ H _ us Q I r ⟨a, ws, rfl, ?_, ?_⟩
        · rcases t with t | t
          · exact .inl (.inl t)
          · exact .inr (by rw [hX]; exact t)
        · rw [← rs.len]
          exact fin_val hR f rfl
    cases x with
    | val d =>
      cases d with
      | str a =>
        obtain ⟨rfl, hc, hl⟩ := (show _ = V.str _ ∧ _ from ry)
        refine call_len_str pins s σ H _ us Q I r ⟨_, rfl, by rw [← lim_eq]; show a.toArray.size ≤ lim; simpa using hl, ?_⟩
        have e : ((⟨a.toArray⟩ : Str).length : Int) = (a.length : Int) := by simp [Str.length]
        rw [e]
        exact fin_val hR f rfl
      | _ => exact seqs f
    | ref n => exact seqs f
    | exn C fs => exact seqs f
theorem ok_intC (own : Bool) : CallR X (.type "int") (rdN G pn (biV own .int)) := by
  intro pins s σ H vs us Q I r h
  obtain ⟨W, φ, L, xs, hR, rx, f⟩ := h
  match xs, rx, f with
  | [], _, f => exact f.elim
  | _ :: _ :: _, _, f => exact f.elim
  | [x], rx, f =>
    obtain ⟨v, rfl, ry⟩ := RVs.one rx
    cases x with
    | val d =>
      cases d with
      | int i =>
        cases (show v = V.int i from ry)
        exact call_int1 pins s σ H _ us Q I r (.inl ⟨i, rfl, fin_val hR f rfl⟩)
      | _ => exact f.elim
    | ref n => exact f.elim
    | exn C fs => exact f.elim
theorem bools_rd {O : Addr → Prop} : ∀ {ds : List D} {vs : List V} {bs : List Bool}, bools ds = some bs → RDs G O H ds vs → vs = bs.map V.bl
  | [], _, _, e, r => by cases e; exact r
  | d :: ds, _, bs, e, r => by
    obtain ⟨v, q, rfl, h1, h2⟩ := r
    cases d with
    | bl b =>
      simp only [bools] at e
      cases e2 : bools ds with
      | none => rw [e2] at e; cases e
      | some cs =>
        rw [e2] at e
        cases e
        cases (show v = V.bl b from h1)
        rw [bools_rd e2 h2]
        rfl
    | _ => simp [bools] at e
theorem ok_all (hc : X.calm = true) (own : Bool) : CallR X (.builtin "all") (rdN G pn (biV own .all)) := by
  intro pins s σ H vs us Q I r h
  obtain ⟨W, φ, L, xs, hR, rx, f⟩ := h
  match xs, rx, f with
  | [], _, f => exact f.elim
  | _ :: _ :: _, _, f => exact f.elim
  | [x], rx, f =>
    obtain ⟨v, rfl, ry⟩ := RVs.one rx
    have f : Fin G (RelV2 G pn) W φ L H Q (match (x.lst? L).bind bools with
      | some bs => .ok (.val (.bl (bs.all id))) L
      | none => .stuck) := f
    cases e : x.lst? L with
    | none => rw [e] at f; exact f.elim
    | some ds =>
      rw [e] at f
      cases e2 : bools ds with
      | none => simp only [Option.bind_some, e2] at f; exact f.elim
      | some bs =>
        simp only [Option.bind_some, e2] at f
        obtain ⟨a, ws, rfl, t, rs⟩ := RV.lst hR ry e
        have ew := bools_rd e2 rs
        subst ew
        exact cr_all hc pins s σ H _ us Q I r ⟨a, bs, rfl, .inl t, fin_val hR f rfl⟩
theorem ok_any (hc : X.calm = true) (own : Bool) : CallR X (.builtin "any") (rdN G pn (biV own .any)) := by
  intro pins s σ H vs us Q I r h
  obtain ⟨W, φ, L, xs, hR, rx, f⟩ := h
  match xs, rx, f with
  | [], _, f => exact f.elim
  | _ :: _ :: _, _, f => exact f.elim
  | [x], rx, f =>
    obtain ⟨v, rfl, ry⟩ := RVs.one rx
    have f : Fin G (RelV2 G pn) W φ L H Q (match (x.lst? L).bind bools with
      | some bs => .ok (.val (.bl (bs.any id))) L
      | none => .stuck) := f
    cases e : x.lst? L with
    | none => rw [e] at f; exact f.elim
    | some ds =>
      rw [e] at f
      cases e2 : bools ds with
      | none => simp only [Option.bind_some, e2] at f; exact f.elim
      | some bs =>
        simp only [Option.bind_some, e2] at f
        obtain ⟨a, ws, rfl, t, rs⟩ := RV.lst hR ry e
        have ew := bools_rd e2 rs
        subst ew
        exact cr_any hc pins s σ H _ us Q I r ⟨a, bs, rfl, .inl t, fin_val hR f rfl⟩
theorem ok_list (hX : X.K = G.K) (own : Bool) : CallR X (.type "list") (rdN G pn (biV own .list)) := by
  intro pins s σ H vs us Q I r h
  obtain ⟨W, φ, L, xs, hR, rx, f⟩ := h
  match xs, rx, f with
  | [], _, f => exact f.elim
  | _ :: _ :: _, _, f => exact f.elim
  | [x], rx, f =>
    obtain ⟨v, rfl, ry⟩ := RVs.one rx
    have f : Fin G (RelV2 G pn) W φ L H Q (match x.seq? L with
      | some ys => newL own ys L
      | none => .stuck) := f
    cases e : x.seq? L with
    | none => rw [e] at f; exact f.elim
    | some ys =>
      simp only [e] at f
      obtain ⟨a, ws, rfl, t, rs⟩ := RV.seq hR ry e
      refine call_list_of pins s σ H _ us Q I r ⟨a, ws, rfl, ?_, (fin_newL hR f rs).2⟩
      rcases t with t | t
      · exact .inl (.inl t)
      · exact .inr (by rw [hX]; exact t)
theorem ok_tuple (hX : X.K = G.K) (own : Bool) : CallR X (.type "tuple") (rdN G pn (biV own .tuple)) := by
  intro pins s σ H vs us Q I r h
  obtain ⟨W, φ, L, xs, hR, rx, f⟩ := h
  match xs, rx, f with
  | [], _, f => exact f.elim
  | _ :: _ :: _, _, f => exact f.elim
  | [x], rx, f =>
    obtain ⟨v, rfl, ry⟩ := RVs.one rx
    have lists : Fin G (RelV2 G pn) W φ L H Q (match x.lst? L with
        | some ys => newT ys L
        | none => .stuck) → wpAny (model X.prog X.w) X.A (PySem.call (.type "tuple") us) (EP X pins σ Q) X.xe s := fun f => by
      cases e : x.lst? L with
      | none => rw [e] at f; exact f.elim
      | some ys =>
        simp only [e] at f
        obtain ⟨a, ws, rfl, t, rs⟩ := RV.lst hR ry e
        exact call_tuple_of pins s σ H _ us Q I r ⟨a, ws, rfl, .inl ⟨.inl t, (fin_newT hR f rs).2⟩⟩
    cases x with
    | val d =>
      cases d with
      | tup ys =>
        obtain ⟨a, ws, rfl, t, rs⟩ := ry
        exact call_tuple_of pins s σ H _ us Q I r ⟨a, ws, rfl, .inr ⟨by rw [hX]; exact t.sq, fin_val hR f ⟨a, ws, rfl, t, rs⟩⟩⟩
      | _ => exact lists f
    | ref n => exact lists f
    | exn C fs => exact lists f

theorem ok_append (own : Bool) : MtR X "list.append" (rdM G pn (methV own .lAppend)) := by
  intro pins s σ H v vs w us Q I rv r h
  obtain ⟨W, φ, L, x, xs, hR, rx, rxs, f⟩ := h
  match xs, rxs, f with
  | [], _, f => exact f.elim
  | .ref _ :: [], _, f => exact f.elim
  | .exn _ _ :: [], _, f => exact f.elim
  | .ref _ :: _ :: _, _, f => exact f.elim
  | .exn _ _ :: _ :: _, _, f => exact f.elim
  | .val _ :: _ :: _, _, f => exact f.elim
  | [.val y], rxs, f =>
    obtain ⟨u, rfl, ru⟩ := RVs.one rxs
    have f : Fin G (RelV2 G pn) W φ L H Q (lstPut x L fun ys => if ys.length < lim then some (ys ++ [y], .non) else none) := f
    cases x with
    | val d => exact f.elim
    | exn C fs => exact f.elim
    | ref n =>
      unfold lstPut at f
      cases hn : L[n]? with
      | none => simp only [hn] at f; exact f.elim
      | some o =>
        cases o with
        | lst ys =>
          simp only [hn] at f
          by_cases hl : ys.length < lim
          · simp only [hl, if_true] at f
            obtain ⟨a, ws, rfl, ha, hH, rs⟩ := RV.own hR rx hn
            obtain ⟨h1, e1⟩ := fin_put hR hn ha (rs.app (RDs.one ru))
            exact mt_append pins s σ H _ _ w us Q I rv r ⟨a, ws, u, rfl, rfl, hH, by rw [← rs.len, ← lim_eq]; exact hl, f φ .non _ h1 e1 rfl⟩
          · simp only [hl, if_false] at f
            exact f.elim
        | _ => simp only [hn] at f; exact f.elim
theorem upper_arr (a : List Nat) : (a.toArray.map up1) = (upper a).toArray := by
  unfold upper
  simp only [List.map_toArray]
  rfl
theorem ok_upper (own : Bool) : MtR X "str.upper" (rdM G pn (methV own .sUpper)) := by
  intro pins s σ H v vs w us Q I rv r h
  obtain ⟨W, φ, L, x, xs, hR, rx, rxs, f⟩ := h
  match xs, rxs, f with
  | _ :: _, _, f => cases x <;> exact f.elim
  | [], rxs, f =>
    cases (show vs = [] from rxs)
    cases x with
    | val d =>
      cases d with
      | str a =>
        obtain ⟨rfl, hc, hl⟩ := (show _ = V.str _ ∧ _ from rx)
        have f : Fin G (RelV2 G pn) W φ L H Q (if (a.all (fun c => decide (c < 128)) && decide (a.length ≤ 5592405)) = true then .ok (.val (.str (upper a))) L else .stuck) := f
        by_cases k : (a.all (fun c => decide (c < 128)) && decide (a.length ≤ 5592405)) = true
        · rw [if_pos k] at f
          simp only [Bool.and_eq_true, List.all_eq_true, decide_eq_true_eq] at k
          refine mt_upper pins s σ H _ _ w us Q I rv r ⟨_, rfl, rfl, ?_, ?_⟩
          · show a.toArray.size ≤ _
            simpa using k.2
          · rw [upper_ascii (x := ⟨a.toArray⟩) (by simpa using k.1), upper_arr]
            refine fin_val hR f ⟨rfl, fun c hm => ?_, by simpa [upper] using hl⟩
            unfold upper at hm
            obtain ⟨c', h1, h2⟩ := List.mem_map.mp hm
            have := k.1 c' h1
            subst h2
            split <;> omega
        · rw [if_neg k] at f
          exact f.elim
      | _ => exact f.elim
    | ref n => exact f.elim
    | exn C fs => exact f.elim
theorem occ_size (x : Str) (c : Nat) : ∀ (k lo : Nat) (st : Array Nat × Nat), lo + k = x.length + 1 → st.snd ≤ lo → st.fst.size ≤ lo →
    ((forIn (List.range' lo k) st (StrLaws.occBody x ⟨#[c]⟩ x.length (x.length + 1))).run.fst).size = st.fst.size + (x.cps.toList.drop lo).count c
  | 0, lo, st, h, _, _ => by
    have : (x.cps.toList.drop lo) = [] := List.drop_eq_nil_of_le (by simp [Str.length] at h ⊢; omega)
    rw [this]
    rfl
  | k + 1, lo, st, h, h1, h2 => by
    rw [List.range'_succ, List.forIn_cons]
    by_cases hc : x.cps.toList[lo]? = some c
    · obtain ⟨q1, q2⟩ := (StrLaws.subAt_one x c lo).mpr hc
      have e : StrLaws.occBody x ⟨#[c]⟩ x.length (x.length + 1) lo st = pure (ForInStep.yield (st.fst.push lo, lo + 1)) := by
        unfold StrLaws.occBody
        rw [if_pos ⟨⟨⟨by omega, h1⟩, q1⟩, q2⟩]
        rfl
      rw [e]
      have ih := occ_size x c k (lo + 1) (st.fst.push lo, lo + 1) (by omega) (Nat.le_refl _) (by simp; omega)
      have ih2 : ((forIn (List.range' (lo + 1) k) (st.fst.push lo, lo + 1) (StrLaws.occBody x ⟨#[c]⟩ x.length (x.length + 1))).run.fst).size = (st.fst.push lo).size + (x.cps.toList.drop (lo + 1)).count c := ih
      refine Eq.trans ih2 ?_
      obtain ⟨hlt, hv⟩ := List.getElem?_eq_some_iff.mp hc
      rw [List.drop_eq_getElem_cons hlt, hv, List.count_cons_self]
      simp
      omega
    · have e : StrLaws.occBody x ⟨#[c]⟩ x.length (x.length + 1) lo st = pure (ForInStep.yield (st.fst, st.snd)) := by
        unfold StrLaws.occBody
        rw [if_neg]
        rintro ⟨⟨_, q1⟩, q2⟩
        exact hc ((StrLaws.subAt_one x c lo).mp ⟨q1, q2⟩)
      rw [e]
      have ih := occ_size x c k (lo + 1) (st.fst, st.snd) (by omega) (by omega) (show st.fst.size ≤ lo + 1 by omega)
      refine Eq.trans ih ?_
      by_cases hlt : lo < x.cps.toList.length
      · rw [List.drop_eq_getElem_cons hlt, List.count_cons_of_ne]
        intro z
        exact hc (by rw [List.getElem?_eq_getElem hlt, z])
      · rw [List.drop_eq_nil_of_le (by omega), List.drop_eq_nil_of_le (by omega)]
theorem count_one (a : List Nat) (c : Nat) : Txt.count ⟨a.toArray⟩ ⟨#[c]⟩ = (a.count c : Int) := by
  have h := occ_size ⟨a.toArray⟩ c ((⟨a.toArray⟩ : Str).length + 1) 0 (#[], 0) (by omega) (Nat.le_refl _) (Nat.le_refl _)
  unfold Txt.count
  rw [StrLaws.occ_eq]
  have e : (⟨a.toArray⟩ : Str).length + 1 - 0 = (⟨a.toArray⟩ : Str).length + 1 := rfl
  rw [e, Array.length_toList]
  rw [h]
  simp
theorem ok_scount (own : Bool) : MtR X "str.count" (rdM G pn (methV own .sCount)) := by
  intro pins s σ H v vs w us Q I rv r h
  obtain ⟨W, φ, L, x, xs, hR, rx, rxs, f⟩ := h
  match xs, rxs, f with
  | [], _, f => exact f.elim
  | _ :: _ :: _, _, f => exact f.elim
  | [y], rxs, f =>
    obtain ⟨u, rfl, ru⟩ := RVs.one rxs
    cases x with
    | val d =>
      cases d with
      | str a =>
        cases y with
        | val d =>
          cases d with
          | str b =>
            match b, ru, f with
            | [], _, f => exact f.elim
            | _ :: _ :: _, _, f => exact f.elim
            | [c], ru, f =>
              obtain ⟨rfl, hc, hl⟩ := (show _ = V.str _ ∧ _ from rx)
              obtain ⟨rfl, hc2, hl2⟩ := (show _ = V.str _ ∧ _ from ru)
              refine mt_count pins s σ H _ _ w us Q I rv r ⟨_, _, rfl, rfl, ?_⟩
              have e := count_one a c
              have f' : Fin G (RelV2 G pn) W φ L H Q (.ok (.val (.int (a.count c))) L) := f
              have q := fin_val hR f' (show RD G (Own G φ L) H (.int (a.count c)) (.int (a.count c)) from rfl)
              rw [← e] at q
              exact q
          | _ => exact f.elim
        | ref n => exact f.elim
        | exn C fs => exact f.elim
      | _ => exact f.elim
    | ref n => exact f.elim
    | exn C fs => exact f.elim
end
end PI

set_option maxRecDepth 100000
set_option maxHeartbeats 1000000
namespace PI
open PySem PySem.Spec PyProof.Rows L2

/-- an exception that leaves -/
def RXe (G : Gd) (O : Addr → Prop) (H : Hp) (C : Nat) (fs : List (Nat × D)) (cls : Value) (d : Option Addr) : Prop :=
  cls = .ref (G.cn C) ∧ ((∃ dd gs, d = some dd ∧ (H dd = some (.xd gs) ∧ ¬ O dd) ∧ RDf G O H fs gs) ∨ (fs = [] ∧ d = none))
abbrev WT := Nat → List (Nat × D) → List Addr → LH → Hp → Prop
def WEx (G : Gd) (W : WX) (σ : L2.St) : WT := fun C fs φ L H => ∀ cls d, RXe G (Own G φ L) H C fs cls d → W cls d σ H
/-- the slots -/
def RSl (G : Gd) (pn : Pn) (φ : List Addr) (O : Addr → Prop) (H : Hp) (sl : SL) (σ : L2.St) : Prop :=
  sl.length = σ.length ∧ ∀ (i : Nat) (x : V2), sl[i]? = some (some x) → ∃ v, σ[i]? = some (some v) ∧ RV G pn φ O H x v
theorem RSl.go {G : Gd} {pn : Pn} {φ φ' : List Addr} {L L' : LH} {H H' : Hp} {sl : SL} {σ : L2.St} (e : Ext G φ L H φ' L' H') (h : RSl G pn φ (Own G φ L) H sl σ) : RSl G pn φ' (Own G φ' L') H' sl σ :=
  ⟨h.1, fun i x q => let ⟨v, a, b⟩ := h.2 i x q; ⟨v, a, RV.go e b⟩⟩
theorem RSl.set {G : Gd} {pn : Pn} {φ : List Addr} {O : Addr → Prop} {H : Hp} {sl : SL} {σ : L2.St} (h : RSl G pn φ O H sl σ) (i : Nat) {x : V2} {v : V} (r : RV G pn φ O H x v) : RSl G pn φ O H (sl.set i (some x)) (σ.set i (some v)) := by
  refine ⟨by simp [h.1], fun j y q => ?_⟩
  by_cases hj : i = j
  · subst hj
    by_cases hl : i < sl.length
    · rw [List.getElem?_set_self hl] at q
      cases q
      exact ⟨v, List.getElem?_set_self (by rw [← h.1]; exact hl), r⟩
    · rw [List.getElem?_eq_none (by simpa using hl)] at q; cases q
  · rw [List.getElem?_set_ne hj] at q
    obtain ⟨u, a, b⟩ := h.2 j y q
    exact ⟨u, by rw [List.getElem?_set_ne hj]; exact a, b⟩
def rdE (G : Gd) (pn : Pn) (W : WX) (f : SL → LH → R V2) : TE := fun σ H Q => ∃ (φ : List Addr) (sl : SL) (L : LH), HR G φ L H ∧ RSl G pn φ (Own G φ L) H sl σ ∧ Fin G (RelV2 G pn) (WEx G W σ) φ L H Q (f sl L)
def rdT (G : Gd) (pn : Pn) (W : WX) (f : SL → LH → R Bool) : TT := fun σ H Q => ∃ (φ : List Addr) (sl : SL) (L : LH), HR G φ L H ∧ RSl G pn φ (Own G φ L) H sl σ ∧ Fin G (fun _ _ _ a b => a = b) (WEx G W σ) φ L H Q (f sl L)
abbrev RelVs (G : Gd) (pn : Pn) : List Addr → LH → Hp → List V2 → List V → Prop := fun φ L H xs vs => RVs G pn φ (Own G φ L) H xs vs
def rdA (G : Gd) (pn : Pn) (W : WX) (f : SL → LH → R (List V2)) : TA := fun σ H Q => ∃ (φ : List Addr) (sl : SL) (L : LH), HR G φ L H ∧ RSl G pn φ (Own G φ L) H sl σ ∧ Fin G (RelVs G pn) (WEx G W σ) φ L H Q (f sl L)
def rdK (G : Gd) (pn : Pn) (W : WX) (f : SL → LH → R (List (Nat × V2))) : TA := fun σ H Q => ∃ (φ : List Addr) (sl : SL) (L : LH), HR G φ L H ∧ RSl G pn φ (Own G φ L) H sl σ ∧ Fin G (fun φ L H xs vs => RVs G pn φ (Own G φ L) H (xs.map (·.2)) vs) (WEx G W σ) φ L H Q (f sl L)
def rdP (G : Gd) (pn : Pn) (W : WX) (f : SL → LH → R (Option Int)) : L2.TO := fun σ H Q => ∃ (φ : List Addr) (sl : SL) (L : LH), HR G φ L H ∧ RSl G pn φ (Own G φ L) H sl σ ∧ Fin G (fun _ _ _ a b => a = b) (WEx G W σ) φ L H Q (f sl L)

theorem _root_.L2.PE.imp {X : Cx} {e : Expr} {t t' : TE} (h : PE X e t) (k : ∀ σ H Q, t' σ H Q → t σ H Q) : PE X e t' := ⟨fun pins s σ H Q I q => h.run pins s σ H Q I (k σ H Q q)⟩
theorem _root_.L2.PT.imp {X : Cx} {e : Expr} {t t' : TT} (h : PT X e t) (k : ∀ σ H Q, t' σ H Q → t σ H Q) : PT X e t' := ⟨fun pins s σ H Q I q => h.run pins s σ H Q I (k σ H Q q)⟩
theorem _root_.L2.PA.imp {X : Cx} {e : List Expr} {t t' : TA} (h : PA X e t) (k : ∀ σ H Q, t' σ H Q → t σ H Q) : PA X e t' := ⟨fun pos pins s σ H Q I q => h.run pos pins s σ H Q I (k σ H Q q)⟩

section
variable {G : Gd} {pn : Pn} {W : WX} {φ : List Addr} {L : LH} {H : Hp} {σ : L2.St} {sl : SL}
/-- what follows a part -/
theorem bindG {α β γ δ : Type} {RA : List Addr → LH → Hp → α → β → Prop} {RB : List Addr → LH → Hp → γ → δ → Prop} {Wt : WT} {Q : δ → Hp → Prop} {r : R α} {g : α → LH → R γ} (h : Fin G RB Wt φ L H Q (r.bind g)) :
    Fin G RA Wt φ L H (fun v H1 => ∃ (φ1 : List Addr) (L1 : LH) (x : α), HR G φ1 L1 H1 ∧ Ext G φ L H φ1 L1 H1 ∧ RA φ1 L1 H1 x v ∧ Fin G RB Wt φ1 L1 H1 Q (g x L1)) r := by
  cases r with
  | ok x L1 => exact fun φ1 v H1 h1 e1 r1 => ⟨φ1, L1, x, h1, e1, r1, Fin.ext e1 h⟩
  | exc C fs L1 => exact h
  | stuck => exact h
/-- an expression, then more -/
theorem bindE {γ δ : Type} {RB : List Addr → LH → Hp → γ → δ → Prop} {Q : δ → Hp → Prop} {f : SL → LH → R V2} {g : V2 → LH → R γ} (hR : HR G φ L H) (hS : RSl G pn φ (Own G φ L) H sl σ) (h : Fin G RB (WEx G W σ) φ L H Q ((f sl L).bind g)) :
    rdE G pn W f σ H (fun v H1 => ∃ (φ1 : List Addr) (L1 : LH) (x : V2), HR G φ1 L1 H1 ∧ Ext G φ L H φ1 L1 H1 ∧ RV G pn φ1 (Own G φ1 L1) H1 x v ∧ RSl G pn φ1 (Own G φ1 L1) H1 sl σ ∧ Fin G RB (WEx G W σ) φ1 L1 H1 Q (g x L1)) := by
  refine ⟨φ, sl, L, hR, hS, ?_⟩
  have q := bindG (RA := RelV2 G pn) h
  cases e : f sl L with
  | ok x L1 =>
    rw [e] at q
    exact fun φ' v H' h1 e1 r1 => by
      obtain ⟨φ1, L1', x1, a1, a2, a3, a4⟩ := q φ' v H' h1 e1 r1
      exact ⟨φ1, L1', x1, a1, a2, a3, hS.go a2, a4⟩
  | exc C fs L1 => rw [e] at q; exact q
  | stuck => rw [e] at q; exact q
theorem bindA {γ δ : Type} {RB : List Addr → LH → Hp → γ → δ → Prop} {Q : δ → Hp → Prop} {f : SL → LH → R (List V2)} {g : List V2 → LH → R γ} (hR : HR G φ L H) (hS : RSl G pn φ (Own G φ L) H sl σ) (h : Fin G RB (WEx G W σ) φ L H Q ((f sl L).bind g)) :
    rdA G pn W f σ H (fun v H1 => ∃ (φ1 : List Addr) (L1 : LH) (x : List V2), HR G φ1 L1 H1 ∧ Ext G φ L H φ1 L1 H1 ∧ RVs G pn φ1 (Own G φ1 L1) H1 x v ∧ RSl G pn φ1 (Own G φ1 L1) H1 sl σ ∧ Fin G RB (WEx G W σ) φ1 L1 H1 Q (g x L1)) := by
  refine ⟨φ, sl, L, hR, hS, ?_⟩
  have q := bindG (RA := RelVs G pn) h
  cases e : f sl L with
  | ok x L1 =>
    rw [e] at q
    exact fun φ' v H' h1 e1 r1 => by
      obtain ⟨φ1, L1', x1, a1, a2, a3, a4⟩ := q φ' v H' h1 e1 r1
      exact ⟨φ1, L1', x1, a1, a2, a3, hS.go a2, a4⟩
  | exc C fs L1 => rw [e] at q; exact q
  | stuck => rw [e] at q; exact q
theorem bindK {γ δ : Type} {RB : List Addr → LH → Hp → γ → δ → Prop} {Q : δ → Hp → Prop} {f : SL → LH → R (List (Nat × V2))} {g : List (Nat × V2) → LH → R γ} (hR : HR G φ L H) (hS : RSl G pn φ (Own G φ L) H sl σ) (h : Fin G RB (WEx G W σ) φ L H Q ((f sl L).bind g)) :
    rdK G pn W f σ H (fun v H1 => ∃ (φ1 : List Addr) (L1 : LH) (x : List (Nat × V2)), HR G φ1 L1 H1 ∧ Ext G φ L H φ1 L1 H1 ∧ RVs G pn φ1 (Own G φ1 L1) H1 (x.map (·.2)) v ∧ RSl G pn φ1 (Own G φ1 L1) H1 sl σ ∧ Fin G RB (WEx G W σ) φ1 L1 H1 Q (g x L1)) := by
  refine ⟨φ, sl, L, hR, hS, ?_⟩
  have q := bindG (RA := fun φ L H xs vs => RVs G pn φ (Own G φ L) H (xs.map (·.2)) vs) h
  cases e : f sl L with
  | ok x L1 =>
    rw [e] at q
    exact fun φ' v H' h1 e1 r1 => by
      obtain ⟨φ1, L1', x1, a1, a2, a3, a4⟩ := q φ' v H' h1 e1 r1
      exact ⟨φ1, L1', x1, a1, a2, a3, hS.go a2, a4⟩
  | exc C fs L1 => rw [e] at q; exact q
  | stuck => rw [e] at q; exact q
theorem bindP' {γ δ : Type} {RB : List Addr → LH → Hp → γ → δ → Prop} {Q : δ → Hp → Prop} {f : SL → LH → R (Option Int)} {g : Option Int → LH → R γ} (hR : HR G φ L H) (hS : RSl G pn φ (Own G φ L) H sl σ) (h : Fin G RB (WEx G W σ) φ L H Q ((f sl L).bind g)) :
    rdP G pn W f σ H (fun v H1 => ∃ (φ1 : List Addr) (L1 : LH), HR G φ1 L1 H1 ∧ Ext G φ L H φ1 L1 H1 ∧ RSl G pn φ1 (Own G φ1 L1) H1 sl σ ∧ Fin G RB (WEx G W σ) φ1 L1 H1 Q (g v L1)) := by
  refine ⟨φ, sl, L, hR, hS, ?_⟩
  have q := bindG (RA := fun _ _ _ a b => a = b) h
  cases e : f sl L with
  | ok x L1 =>
    rw [e] at q
    exact fun φ' v H' h1 e1 r1 => by
      obtain ⟨φ1, L1', x1, a1, a2, a3, a4⟩ := q φ' v H' h1 e1 r1
      exact ⟨φ1, L1', a1, a2, hS.go a2, by rw [← a3]; exact a4⟩
  | exc C fs L1 => rw [e] at q; exact q
  | stuck => rw [e] at q; exact q
theorem bindT {γ δ : Type} {RB : List Addr → LH → Hp → γ → δ → Prop} {Q : δ → Hp → Prop} {f : SL → LH → R Bool} {g : Bool → LH → R γ} (hR : HR G φ L H) (hS : RSl G pn φ (Own G φ L) H sl σ) (h : Fin G RB (WEx G W σ) φ L H Q ((f sl L).bind g)) :
    rdT G pn W f σ H (fun v H1 => ∃ (φ1 : List Addr) (L1 : LH), HR G φ1 L1 H1 ∧ Ext G φ L H φ1 L1 H1 ∧ RSl G pn φ1 (Own G φ1 L1) H1 sl σ ∧ Fin G RB (WEx G W σ) φ1 L1 H1 Q (g v L1)) := by
  refine ⟨φ, sl, L, hR, hS, ?_⟩
  have q := bindG (RA := fun _ _ _ a b => a = b) h
  cases e : f sl L with
  | ok x L1 =>
    rw [e] at q
    exact fun φ' v H' h1 e1 r1 => by
      obtain ⟨φ1, L1', x1, a1, a2, a3, a4⟩ := q φ' v H' h1 e1 r1
      exact ⟨φ1, L1', a1, a2, hS.go a2, by rw [← a3]; exact a4⟩
  | exc C fs L1 => rw [e] at q; exact q
  | stuck => rw [e] at q; exact q
end

section
variable {G : Gd} {pn : Pn} {φ : List Addr} {L : LH} {H : Hp} {X : Cx}
theorem isEmpty_rds {O : Addr → Prop} {ds : List D} {vs : List V} (r : RDs G O H ds vs) : ds.isEmpty = vs.isEmpty := by
  cases ds with
  | nil => cases (show vs = [] from r); rfl
  | cons x xs => obtain ⟨v, q, rfl, _⟩ := r; rfl
theorem isEmpty_rdk {O : Addr → Prop} {ds : List (D × D)} {vs : List (Key × V)} (r : RDk G O H ds vs) : ds.isEmpty = vs.isEmpty := by
  cases ds with
  | nil => cases (show vs = [] from r); rfl
  | cons x xs => obtain ⟨z, v, q, rfl, _⟩ := r; rfl
theorem truth_ok (h : HR G φ L H) {x : V2} {v : V} {k : Bool} (r : RV G pn φ (Own G φ L) H x v) (e : x.truth L = some k) : TruV G.K v H k := by
  cases x with
  | val d =>
    cases d with
    | non => cases (show v = V.non from r); exact (Option.some.inj e).symm
    | bl b => cases (show v = V.bl b from r); exact (Option.some.inj e).symm
    | int i => cases (show v = V.int i from r); exact (Option.some.inj e).symm
    | str s =>
      obtain ⟨rfl, hc, hl⟩ := (show _ = V.str _ ∧ _ from r)
      refine ⟨by rw [← lim_eq]; show s.toArray.size ≤ lim; simpa using hl, ?_⟩
      have e2 : k = !s.isEmpty := (Option.some.inj e).symm
      rw [e2]
      cases s <;> simp [Str.length]
      omega
    | tup xs =>
      obtain ⟨a, vs, rfl, t, rs⟩ := r
      exact .inr (.inl ⟨vs, t.sq, by rw [← isEmpty_rds rs]; exact (Option.some.inj e).symm⟩)
    | lst xs =>
      obtain ⟨a, vs, rfl, t, rs⟩ := r
      exact .inl ⟨vs, t.sq, by rw [← isEmpty_rds rs]; exact (Option.some.inj e).symm⟩
    | dct kvs =>
      obtain ⟨a, ks, rfl, t, rs⟩ := r
      exact .inr (.inr ⟨ks, t.1, by rw [← isEmpty_rdk rs]; exact (Option.some.inj e).symm⟩)
    | ins C fs => cases e
  | ref n =>
    cases hn : L[n]? with
    | none => simp [V2.truth, hn] at e
    | some o =>
      cases o with
      | lst xs =>
        obtain ⟨a, vs, rfl, ha, hH, rs⟩ := RV.own h r hn
        simp only [V2.truth, hn] at e
        exact .inl ⟨vs, SqL.of hH, by rw [← isEmpty_rds rs]; exact (Option.some.inj e).symm⟩
      | dct kvs =>
        obtain ⟨a, rfl, ha⟩ := r
        obtain ⟨ks, hH, rs⟩ := h.at_ n _ a hn ha
        simp only [V2.truth, hn] at e
        exact .inr (.inr ⟨ks, hH, by rw [← isEmpty_rdk rs]; exact (Option.some.inj e).symm⟩)
      | _ => simp [V2.truth, hn] at e
  | exn C fs => cases e
end
end PI

set_option maxRecDepth 100000
set_option maxHeartbeats 1000000
namespace PI
open PySem PySem.Spec PyProof.Rows L2

/-- the tables: names by number; which are defs, which are values; built-in names that the module leaves alone -/
structure Tb where
  nm : Nat → Str
  fns : List Nat
  globs : List Nat
  free : List Str
  cls : List Nat
def visB (sc : Scope) (x : Str) : Bool := match sc.names.lookup x with
  | some .local => true
  | some .cell => true
  | some .free => true
  | _ => false
def locB (sc : Scope) (x : Str) : Bool := match sc.names.lookup x with
  | some .local => true
  | _ => false
def glB (sc : Scope) (x : Str) : Bool := match sc.names.lookup x with
  | some .globalImplicit => true
  | _ => false
def dbgB (x : Str) : Bool := x == ("__debug__" : Str)
def cdB (x : Str) : Bool := x == ("__classdict__" : Str)
def constB : D → Const → Bool
  | .non, .none => true
  | .bl b, .bool c => b == c
  | .int i, .int j => decide (i = j)
  | .str s, .str z => decide (z = ⟨s.toArray⟩) && s.all (fun c => decide (c < 0x110000)) && decide (s.length ≤ lim)
  | _, _ => false
def notStar : Expr → Bool
  | .Starred _ _ => false
  | _ => true
def notSet : Expr → Bool
  | .Set _ _ _ => false
  | _ => true
def notSlice : Expr → Bool
  | .Slice _ _ _ _ => false
  | _ => true
/-- no call without arguments: super() -/
def notCall0 : Expr → Bool
  | .Call (.Name _ _) [] [] _ => false
  | _ => true
def BI.name : BI → String
  | .len => "len"
  | .int => "int"
  | .all => "all"
  | .any => "any"
  | .sorted => "sorted"
  | .list => "list"
  | .tuple => "tuple"
  | .sum => "sum"
  | .abs => "abs"
  | .min => "min"
  | .max => "max"
  | .repr => "repr"
  | .set => "set"
  | .str => "str"
  | .dict => "dict"
/-- the built-ins that are served -/
def BI.on : BI → Bool
  | .len => true
  | .int => true
  | .all => true
  | .any => true
  | .list => true
  | .tuple => true
  | _ => false
def MI.name : MI → String
  | .lAppend => "append" | .lInsert => "insert" | .lPop => "pop" | .lPopAt => "pop" | .lIndex => "index" | .lCount => "count" | .lExtend => "extend" | .lReverse => "reverse" | .lClear => "clear" | .lRemove => "remove" | .lCopy => "copy"
  | .sUpper => "upper" | .sCount => "count" | .sFind => "find" | .sJoin => "join" | .sSplit => "split" | .sIslower => "islower" | .sIsalpha => "isalpha" | .sReplace => "replace" | .sStartswith => "startswith" | .sRstrip => "rstrip" | .sIndex => "index" | .sPartition => "partition" | .dGet => "get" | .dKeys => "keys"
def MI.on : MI → Bool
  | .lAppend => true
  | .sUpper => true
  | .sCount => true
  | _ => false
def icB (T : Tb) (sc : Scope) : IC → Expr → Bool
  | .ty n, .Name x _ => decide (x = Str.ofString n) && T.free.contains x && glB sc x && !dbgB x && decide (x ≠ ("__name__" : Str)) && ["int", "str", "bool", "list", "tuple", "dict"].contains n
  | .own C, .Name x _ => decide (x = T.nm C) && T.cls.contains C && glB sc x && !dbgB x
  | _, _ => false
def icsB (T : Tb) (sc : Scope) : List IC → List Expr → Bool
  | [], [] => true
  | c :: cs, e :: es => icB T sc c e && icsB T sc cs es
  | _, _ => false
def celB (sc : Scope) (x : Str) : Bool := match sc.names.lookup x with
  | some .cell => true
  | _ => false
/-- a target of a loop, of an assignment; c: a cell may be one -/
def nmB (c : Bool) (sc : Scope) (N : List Str) (i : Nat) : Expr → Bool
  | .Name x _ => decide (N[i]? = some x) && (locB sc x || (c && celB sc x))
  | _ => false
def nmsB (c : Bool) (sc : Scope) (N : List Str) : List Nat → List Expr → Bool
  | [], [] => true
  | i :: is, e :: es => nmB c sc N i e && nmsB c sc N is es
  | _, _ => false
def tgB (c : Bool) (sc : Scope) (N : List Str) : ITg → Expr → Bool
  | .nm i, e => nmB c sc N i e
  | .tp is, .Tuple es _ _ => nmsB c sc N is es
  | _, _ => false
def ITg.slots : ITg → List Nat
  | .nm i => [i]
  | .tp is => is
def ownOf (tg : ITg) (N : List Str) : List (Str × Nat) := tg.slots.map fun i => (N.getD i ⟨#[]⟩, i)

/-- the parts of what a for walks -/
def itArgs (T : Tb) (sc : Scope) : IK → Expr → Option (List Expr)
  | .over, x => if notStar x then some [x] else none
  | .range, .Call (.Name x _) args [] _ => if decide (x = ("range" : Str)) && T.free.contains x && glB sc x && (decide (args.length = 1) || decide (args.length = 2)) then some args else none
  | _, _ => none
mutual
def okE (T : Tb) : IE → Scope → List Str → Expr → Bool
  | .c d, _, _, .Constant k _ _ => constB d k
  | .v i, sc, N, .Name x _ => decide (N[i]? = some x) && visB sc x && !dbgB x && !cdB x
  | .g g, sc, _, .Name x _ => decide (x = T.nm g) && T.globs.contains g && glB sc x && !dbgB x
  | .tup es, sc, N, .Tuple xs _ _ => okEs T es sc N xs
  | .lst _ es, sc, N, .List xs _ => okEs T es sc N xs
  | .bin op _ a b, sc, N, .BinOp x o y _ => decide (o = op.py) && okE T a sc N x && okE T b sc N y
  | .neg a, sc, N, .UnaryOp .USub x _ => okE T a sc N x
  | .cmp op a b, sc, N, .Compare x [o] [y] _ => decide (o = op.py) && okE T a sc N x && okE T b sc N y && notSet y
  | .chain o1 o2 a b d, sc, N, .Compare x [p1, p2] [y, z] _ => decide (p1 = o1.py) && decide (p2 = o2.py) && okE T a sc N x && okE T b sc N y && okE T d sc N z && notSet z
  | .and a b, sc, N, .BoolOp .And (x :: y :: r) pos => okE T a sc N x && (match r with
    | [] => okE T b sc N y
    | _ => okE T b sc N (.BoolOp .And (y :: r) pos))
  | .or a b, sc, N, .BoolOp .Or (x :: y :: r) pos => okE T a sc N x && (match r with
    | [] => okE T b sc N y
    | _ => okE T b sc N (.BoolOp .Or (y :: r) pos))
  | .not a, sc, N, .UnaryOp .Not x _ => okE T a sc N x
  | .ife t a b, sc, N, .IfExp x y z _ => okE T t sc N x && okE T a sc N y && okE T b sc N z
  | .sub a i, sc, N, .Subscript x y _ => okE T a sc N x && okE T i sc N y && notSlice y
  | .slice _ a lo hi, sc, N, .Subscript x (.Slice l h none _) _ => okE T a sc N x && okP T lo sc N l && okP T hi sc N h
  | .rev _ a, sc, N, .Subscript x (.Slice none none (some (.UnaryOp .USub (.Constant (.int 1) _ _) _)) _) _ => okE T a sc N x
  | .call _ f es ks, sc, N, .Call (.Name x _) args kws _ => decide (x = T.nm f) && T.fns.contains f && glB sc x && !dbgB x && okEs T es sc N args && okKs T ks sc N kws
  | .bi _ b es, sc, N, .Call (.Name x _) args [] _ => b.on && decide (x = Str.ofString b.name) && T.free.contains x && glB sc x && !dbgB x && okEs T es sc N args && !args.isEmpty
  | .isi e cs, sc, N, .Call (.Name x _) [y, z] [] _ => decide (x = ("isinstance" : Str)) && T.free.contains x && glB sc x && okE T e sc N y && (match cs, z with
    | [c], .Name _ _ => icB T sc c z
    | cs, .Tuple zs _ _ => icsB T sc cs zs
    | _, _ => false)
  | .comp _ elt tg k it ts, sc, N, .ListComp e [⟨t, i, ifs, 0⟩] scope _ => L2.blkC N sc scope (ownOf tg N) && tgB false (relS scope sc) N tg t && (match itArgs T sc k i with
      | some xs => okEs T it sc N xs
      | none => false) && okEs T ts (relS scope sc) N ifs && decide (ifs.length ≤ 1) && okE T elt (relS scope sc) N e && notSet i
      && decide (tg.slots.Nodup)
  | .meth _ m e es, sc, N, .Call (.Attribute x name apos) args [] cpos => m.on && decide (name = Str.ofString m.name) && (apos.endLine == cpos.line) && notCall0 x && okE T e sc N x && okEs T es sc N args && decide (args.length < 20)
  | _, _, _, _ => false
def okEs (T : Tb) : List IE → Scope → List Str → List Expr → Bool
  | [], _, _, [] => true
  | e :: es, sc, N, x :: xs => okE T e sc N x && notStar x && okEs T es sc N xs
  | _, _, _, _ => false
def okKs (T : Tb) : List (Nat × IE) → Scope → List Str → List Keyword → Bool
  | [], _, _, [] => true
  | (k, e) :: es, sc, N, ⟨some n, x, _⟩ :: xs => decide (n = T.nm k) && okE T e sc N x && okKs T es sc N xs
  | _, _, _, _ => false
def okP (T : Tb) : Option IE → Scope → List Str → Option Expr → Bool
  | none, _, _, none => true
  | some e, sc, N, some x => okE T e sc N x
  | _, _, _, _ => false
end
/-- a for's walk -/
def okIt (T : Tb) (k : IK) (it : List IE) (sc : Scope) (N : List Str) (x : Expr) : Bool := match itArgs T sc k x with
  | some xs => okEs T it sc N xs
  | none => false
end PI

set_option maxRecDepth 100000
set_option maxHeartbeats 1000000
namespace PI
open PySem PySem.Spec PyProof.Rows L2

theorem Fin.mono {α β : Type} {G : Gd} {Rel : List Addr → LH → Hp → α → β → Prop} {W : WT} {φ : List Addr} {L : LH} {H : Hp} {Q Q' : β → Hp → Prop} (hq : ∀ v H, Q v H → Q' v H) : ∀ {c : R α}, Fin G Rel W φ L H Q c → Fin G Rel W φ L H Q' c
  | .ok _ _, h => fun φ' v H' a b c => hq _ _ (h φ' v H' a b c)
  | .exc _ _ _, h => h
  | .stuck, h => h
section
variable {G : Gd} {pn : Pn} {W : WX} {σ : L2.St} {H : Hp}
theorem rdE.mono {f : SL → LH → R V2} {Q Q' : VK} (h : rdE G pn W f σ H Q) (hq : ∀ v H, Q v H → Q' v H) : rdE G pn W f σ H Q' := let ⟨φ, sl, L, a, b, c⟩ := h; ⟨φ, sl, L, a, b, c.mono hq⟩
theorem rdT.mono {f : SL → LH → R Bool} {Q Q' : Bool → Hp → Prop} (h : rdT G pn W f σ H Q) (hq : ∀ v H, Q v H → Q' v H) : rdT G pn W f σ H Q' := let ⟨φ, sl, L, a, b, c⟩ := h; ⟨φ, sl, L, a, b, c.mono hq⟩
theorem rdA.mono {f : SL → LH → R (List V2)} {Q Q' : List V → Hp → Prop} (h : rdA G pn W f σ H Q) (hq : ∀ v H, Q v H → Q' v H) : rdA G pn W f σ H Q' := let ⟨φ, sl, L, a, b, c⟩ := h; ⟨φ, sl, L, a, b, c.mono hq⟩
theorem rdK.mono {f : SL → LH → R (List (Nat × V2))} {Q Q' : List V → Hp → Prop} (h : rdK G pn W f σ H Q) (hq : ∀ v H, Q v H → Q' v H) : rdK G pn W f σ H Q' := let ⟨φ, sl, L, a, b, c⟩ := h; ⟨φ, sl, L, a, b, c.mono hq⟩
theorem rdP.mono {f : SL → LH → R (Option Int)} {Q Q' : Option Int → Hp → Prop} (h : rdP G pn W f σ H Q) (hq : ∀ v H, Q v H → Q' v H) : rdP G pn W f σ H Q' := let ⟨φ, sl, L, a, b, c⟩ := h; ⟨φ, sl, L, a, b, c.mono hq⟩
end

abbrev Gd.at (G : Gd) (B : Addr → Prop) : Gd := { G with B := B }
section
variable {G : Gd} {B : Addr → Prop} {O O1 : Addr → Prop} {H H1 : Hp}
mutual
theorem RD.re (s : Stp O H O1 H1) : ∀ (d : D) (v : V), RD G O H d v → RD (G.at B) O1 H1 d v
  | .non, _, h => h
  | .bl _, _, h => h
  | .int _, _, h => h
  | .str _, _, h => h
  | .tup xs, _, h => by
    obtain ⟨a, vs, e, t, r⟩ := h
    exact ⟨a, vs, e, s.tup t, RDs.re s xs vs r⟩
  | .lst xs, _, h => by
    obtain ⟨a, vs, e, t, r⟩ := h
    exact ⟨a, vs, e, s.lst (K := G.K) t, RDs.re s xs vs r⟩
  | .dct kvs, _, h => by
    obtain ⟨a, ks, e, ⟨t, n⟩, r⟩ := h
    exact ⟨a, ks, e, ⟨s.keep a _ t n, s.no t n⟩, RDk.re s kvs ks r⟩
  | .ins C fs, _, h => by
    obtain ⟨a, dx, gs, e, ⟨t, n⟩, r⟩ := h
    exact ⟨a, dx, gs, e, ⟨s.keep a _ t n, s.no t n⟩, RDf.re s fs gs r⟩
theorem RDs.re (s : Stp O H O1 H1) : ∀ (ds : List D) (vs : List V), RDs G O H ds vs → RDs (G.at B) O1 H1 ds vs
  | [], _, h => h
  | x :: xs, _, h => by
    obtain ⟨v, r, e, h1, h2⟩ := h
    exact ⟨v, r, e, RD.re s x v h1, RDs.re s xs r h2⟩
theorem RDk.re (s : Stp O H O1 H1) : ∀ (ds : List (D × D)) (vs : List (Key × V)), RDk G O H ds vs → RDk (G.at B) O1 H1 ds vs
  | [], _, h => h
  | (k, x) :: xs, _, h => by
    obtain ⟨z, v, r, e, hk, h1, h2⟩ := h
    exact ⟨z, v, r, e, hk, RD.re s x v h1, RDk.re s xs r h2⟩
theorem RDf.re (s : Stp O H O1 H1) : ∀ (ds : List (Nat × D)) (vs : List (Str × V)), RDf G O H ds vs → RDf (G.at B) O1 H1 ds vs
  | [], _, h => h
  | (k, x) :: xs, _, h => by
    obtain ⟨v, r, e, h1, h2⟩ := h
    exact ⟨v, r, e, RD.re s x v h1, RDf.re s xs r h2⟩
end
end
theorem RV.at {G : Gd} {B : Addr → Prop} {pn : Pn} {φ φ' : List Addr} {O O1 : Addr → Prop} {H H1 : Hp} (s : Stp O H O1 H1) (p : φ <+: φ') : ∀ {x : V2} {v : V}, RV G pn φ O H x v → RV (G.at B) pn φ' O1 H1 x v
  | .val d, v, h => RD.re s d v h
  | .ref n, v, ⟨a, e, q⟩ => ⟨a, e, pre_get p q⟩
  | .exn C fs, v, ⟨a, oe, d, gs, e, hp, hz, hf, ⟨t, n⟩, r⟩ => ⟨a, oe, d, gs, e, hp, hz, hf, ⟨s.keep d _ t n, s.no t n⟩, RDf.re s fs gs r⟩
theorem RO.at {G : Gd} {B : Addr → Prop} {O O1 : Addr → Prop} {H H1 : Hp} (s : Stp O H O1 H1) {a : Addr} (ha : H1 a = H a) : ∀ {o : LO}, RO G O H a o → RO (G.at B) O1 H1 a o
  | .dead, _ => trivial
  | .lst xs, ⟨vs, e, r⟩ => ⟨vs, ha.trans e, RDs.re s xs vs r⟩
  | .dct kvs, ⟨ks, e, r⟩ => ⟨ks, ha.trans e, RDk.re s kvs ks r⟩
  | .ins C fs, ⟨dx, gs, e, r⟩ => ⟨dx, gs, ha.trans e, RDf.re s fs gs r⟩
theorem RSl.at {G : Gd} {B : Addr → Prop} {pn : Pn} {φ φ' : List Addr} {O O1 : Addr → Prop} {H H1 : Hp} {sl : SL} {σ : L2.St} (s : Stp O H O1 H1) (p : φ <+: φ') (h : RSl G pn φ O H sl σ) : RSl (G.at B) pn φ' O1 H1 sl σ :=
  ⟨h.1, fun i x q => let ⟨v, a, b⟩ := h.2 i x q; ⟨v, a, RV.at s p b⟩⟩

/-- how arguments are bound -/
def BndOk (G : Gd) (fd : FuncData) (ps : List Str) (bind : List V2 → List (Nat × V2) → Option (List V2)) : Prop :=
  ∀ (s : Shared) (pos : List V2) (kw : List (Nat × V2)) (zs : List V2) (us ws : List Value) (vs ks : List V) (pn : Pn) (φ : List Addr) (O : Addr → Prop) (H : Hp) (B : Addr → Prop), G.K.In s.heap → bind pos kw = some zs →
    RVs (G.at B) pn φ O H pos vs → RVs (G.at B) pn φ O H (kw.map (·.2)) ks → Vals vs us → Vals ks ws →
    ∃ (us' : List Value) (vs' : List V), BindsTo s fd ⟨us, (kw.map fun p => G.nm p.1).zip ws⟩ (ps.zip us') ∧ Vals vs' us' ∧ RVs (G.at B) pn φ O H zs vs' ∧ vs'.length = ps.length
def WCx (G : Gd) (E : XK) : WT := fun C fs φ L H => ∀ cls d, RXe G (Own G φ L) H C fs cls d → E cls d H
structure FnG (G : Gd) (P : Program) (w : World) (mg : Str → Option Value) (base : Heap) (hot : Bool) (k : Nat) (f : Addr) (fd : FuncData) (ps : List Str) (c : List V2 → LH → R V2) : Prop where
  run : ∀ (B : Addr → Prop) (pn : Pn) (A : Around) (outer : List Env) (s : Shared) (H : Hp) (args : Args) (us : List Value) (vs : List V) (xs : List V2) (φ : List Addr) (L : LH) (Q : VK) (E : XK), L2H.RoomH k A → (hot = false → A.handled = none ∧ pn = []) → (hot = true → ∃ p, pn = [p] ∧ L2H.Hot1 A p) → (∀ p ∈ pn, L2H.PinOk outer H s p) →
    Env0 P w G.K mg base A outer s H → BindsTo s fd args (ps.zip us) → Vals vs us → vs.length = ps.length → HR (G.at B) φ L H → RVs (G.at B) pn φ (Own (G.at B) φ L) H xs vs → Fin (G.at B) (RelV2 (G.at B) pn) (WCx (G.at B) E) φ L H Q (c xs L) →
    codeAny (model P w) A (.call (.ref f) args) (CR (L2.CX P w) outer P w H s Q E) s
/-- classes -/
def KitOk (K : PySem.W.Frag) (cn : Nat → Addr) (t : TV) (c : IC) (b : Bool) : Prop := PySem.W.kitOne K (match t with
  | .ty n => .type n
  | .own C => .ref (cn C)) (match c with
  | .ty n => .type n
  | .own C => .ref (cn C)) = some b
/-- an own class that isinstance may see -/
structure OwnC (K : PySem.W.Frag) (C : Addr) : Prop where
  cl : Cls K C
  ha : PySem.W.findIn K (.ref C) "__class__" = some (some (.builtin "object.__class__"))
  hn : PySem.W.specialIn K (.builtin "object.__class__") "__get__" = some (some (.builtin "getset_descriptor.__get__"))
  htk : PySem.W.takesIn K (.builtin "object.__class__") = some true
  hm : PySem.W.mroIn K C (.type "object") = some true
/-- the module's facts -/
structure Ft (G : Gd) (T : Tb) (P : Prog) (mg : Str → Option Value) : Prop where
  nm : G.nm = T.nm
  free : ∀ x ∈ T.free, mg x = none
  glob : ∀ g ∈ T.globs, ∃ v u, mg (T.nm g) = some u ∧ RelV v u ∧ ∀ B O H, RD (G.at B) O H (P.glob g) v
  kit : ∀ t c b, P.kit t c = some b → KitOk G.K G.cn t c b
  own : ∀ C c b, P.kit (.own C) c = some b → OwnC G.K (G.cn C)
  cls : ∀ C ∈ T.cls, mg (T.nm C) = some (.ref (G.cn C))
  fns : ∀ f ∈ T.fns, ∃ fA, mg (T.nm f) = some (.ref fA) ∧ PySem.W.keepIn G.K (.ref fA) = true
/-- the defs as they run, at most k deep -/
def FnsOk (G : Gd) (T : Tb) (P : Prog) (prog : Program) (w : World) (mg : Str → Option Value) (base : Heap) (hot : Bool) (k : Nat) : Prop :=
  ∀ f ∈ T.fns, ∀ fA, mg (T.nm f) = some (.ref fA) → ∃ fd ps, BndOk G fd ps (P.bind f) ∧ FnG G prog w mg base hot k fA fd ps (call P hot k f)
/-- what is known of a context -/
structure Am (G : Gd) (T : Tb) (P : Prog) (hot : Bool) (k : Nat) (pn : Pn) (W : WX) (X : Cx) : Prop where
  hK : X.K = G.K
  ft : Ft G T P X.mg
  fn : FnsOk G T P X.prog X.w X.mg X.base hot k
  room : L2H.RoomH k X.A
  calm : hot = false → X.calm = true
  pn0 : hot = false → pn = []
  pnH : hot = true → ∃ p, pn = [p] ∧ L2H.Hot1 X.A p
  pns : ∀ p ∈ pn, p ∈ X.pn
  tk : Takes X W
  nd : X.N.Nodup
theorem Am.un {G : Gd} {T : Tb} {P : Prog} {hot : Bool} {k : Nat} {pn : Pn} {W : WX} {X : Cx} (A : Am G T P hot k pn W X) : X.A.units + 64 < cLine := by have := A.room.un; omega
theorem Am.at {G : Gd} {T : Tb} {P : Prog} {hot : Bool} {k : Nat} {pn : Pn} {W : WX} {X : Cx} (A : Am G T P hot k pn W X) (B : Addr → Prop) : Am (G.at B) T P hot k pn W X :=
  ⟨A.hK, ⟨A.ft.nm, A.ft.free, A.ft.glob, A.ft.kit, A.ft.own, A.ft.cls, A.ft.fns⟩, fun f hf fA e => let ⟨fd, ps, b, g⟩ := A.fn f hf fA e; ⟨fd, ps, b, ⟨g.run⟩⟩, A.room, A.calm, A.pn0, A.pnH, A.pns, A.tk, A.nd⟩
end PI

set_option maxRecDepth 100000
set_option maxHeartbeats 1000000
namespace PI
open PySem PySem.Spec PyProof.Rows L2
theorem visB_ok {sc : Scope} {x : Str} (h : visB sc x = true) : Vis sc x := by
  unfold visB at h
  split at h
  · exact .inl (by assumption)
  · exact .inr (.inl (by assumption))
  · exact .inr (.inr (by assumption))
  · cases h
theorem locB_ok {sc : Scope} {x : Str} (h : locB sc x = true) : sc.names.lookup x = some .local := by
  unfold locB at h
  split at h
  · assumption
  · cases h
theorem glB_ok {sc : Scope} {x : Str} (h : glB sc x = true) : sc.names.lookup x = some .globalImplicit := by
  unfold glB at h
  split at h
  · assumption
  · cases h
theorem celB_ok {sc : Scope} {x : Str} (h : celB sc x = true) : sc.names.lookup x = some .cell := by
  unfold celB at h
  split at h
  · assumption
  · cases h
theorem nt {b : Bool} (h : (!b) = true) : b = false := by cases b <;> simp_all
theorem a1 {a b : Bool} (h : (a && b) = true) : a = true := (Bool.and_eq_true _ _ ▸ h : a = true ∧ b = true).1
theorem a2 {a b : Bool} (h : (a && b) = true) : b = true := (Bool.and_eq_true _ _ ▸ h : a = true ∧ b = true).2
theorem ff {p : Prop} (h : false = true) : p := by cases h
section
variable {T : Tb} {sc : Scope} {N : List Str} {x : Expr}
theorem okE_c {d : D} : okE T (.c d) sc N x = true → ∃ k j p, x = .Constant k j p ∧ constB d k = true := by
  cases x <;> first | exact fun h => ff h | skip
  exact fun h => ⟨_, _, _, rfl, h⟩
theorem okE_v {i : Nat} : okE T (.v i) sc N x = true → ∃ y p, x = .Name y p ∧ N[i]? = some y ∧ Vis sc y ∧ dbgB y = false ∧ cdB y = false := by
  cases x <;> first | exact fun h => ff h | skip
  exact fun h => ⟨_, _, rfl, of_decide_eq_true (a1 (a1 (a1 h))), visB_ok (a2 (a1 (a1 h))), nt (a2 (a1 h)), nt (a2 h)⟩
theorem okE_g {i : Nat} : okE T (.g i) sc N x = true → ∃ y p, x = .Name y p ∧ y = T.nm i ∧ i ∈ T.globs ∧ sc.names.lookup y = some .globalImplicit ∧ dbgB y = false := by
  cases x <;> first | exact fun h => ff h | skip
  exact fun h => ⟨_, _, rfl, of_decide_eq_true (a1 (a1 (a1 h))), by simpa using a2 (a1 (a1 h)), glB_ok (a2 (a1 h)), nt (a2 h)⟩
theorem okE_tup {es : List IE} : okE T (.tup es) sc N x = true → ∃ xs j p, x = .Tuple xs j p ∧ okEs T es sc N xs = true := by
  cases x <;> first | exact fun h => ff h | skip
  exact fun h => ⟨_, _, _, rfl, h⟩
theorem okE_lst {w : Bool} {es : List IE} : okE T (.lst w es) sc N x = true → ∃ xs p, x = .List xs p ∧ okEs T es sc N xs = true := by
  cases x <;> first | exact fun h => ff h | skip
  exact fun h => ⟨_, _, rfl, h⟩
theorem okE_bin {op : OpB} {w : Bool} {a b : IE} : okE T (.bin op w a b) sc N x = true → ∃ y o z p, x = .BinOp y o z p ∧ o = op.py ∧ okE T a sc N y = true ∧ okE T b sc N z = true := by
  cases x <;> first | exact fun h => ff h | skip
  exact fun h => ⟨_, _, _, _, rfl, of_decide_eq_true (a1 (a1 h)), a2 (a1 h), a2 h⟩
theorem okE_neg {a : IE} : okE T (.neg a) sc N x = true → ∃ y p, x = .UnaryOp .USub y p ∧ okE T a sc N y = true := by
  cases x <;> first | exact fun h => ff h | skip
  intro h
  rename_i o y p
  cases o <;> first | exact ff h | exact ⟨_, _, rfl, h⟩
theorem okE_not {a : IE} : okE T (.not a) sc N x = true → ∃ y p, x = .UnaryOp .Not y p ∧ okE T a sc N y = true := by
  cases x <;> first | exact fun h => ff h | skip
  intro h
  rename_i o y p
  cases o <;> first | exact ff h | exact ⟨_, _, rfl, h⟩
theorem okE_cmp {op : OpC} {a b : IE} : okE T (.cmp op a b) sc N x = true → ∃ y o z p, x = .Compare y [o] [z] p ∧ o = op.py ∧ okE T a sc N y = true ∧ okE T b sc N z = true ∧ notSet z = true := by
  cases x <;> first | exact fun h => ff h | skip
  intro h
  rename_i y os zs p
  match os, zs, h with
  | [], _, h => exact ff h
  | [_], [], h => exact ff h
  | [_], [_], h => exact ⟨_, _, _, _, rfl, of_decide_eq_true (a1 (a1 (a1 h))), a2 (a1 (a1 h)), a2 (a1 h), a2 h⟩
  | [_], _ :: _ :: _, h => exact ff h
  | _ :: _ :: _, _, h => exact ff h
theorem okE_chain {o1 o2 : OpC} {a b d : IE} : okE T (.chain o1 o2 a b d) sc N x = true → ∃ y p1 p2 z w p, x = .Compare y [p1, p2] [z, w] p ∧ p1 = o1.py ∧ p2 = o2.py ∧ okE T a sc N y = true ∧ okE T b sc N z = true ∧ okE T d sc N w = true ∧ notSet w = true := by
  cases x <;> first | exact fun h => ff h | skip
  intro h
  rename_i y os zs p
  match os, zs, h with
  | [], _, h => exact ff h
  | [_], _, h => exact ff h
  | [_, _], [], h => exact ff h
  | [_, _], [_], h => exact ff h
  | [_, _], [_, _], h => exact ⟨_, _, _, _, _, _, rfl, of_decide_eq_true (a1 (a1 (a1 (a1 (a1 h))))), of_decide_eq_true (a2 (a1 (a1 (a1 (a1 h))))), a2 (a1 (a1 (a1 h))), a2 (a1 (a1 h)), a2 (a1 h), a2 h⟩
  | [_, _], _ :: _ :: _ :: _, h => exact ff h
  | _ :: _ :: _ :: _, _, h => exact ff h
theorem okE_and {a b : IE} : okE T (.and a b) sc N x = true → ∃ y z r p, x = .BoolOp .And (y :: z :: r) p ∧ okE T a sc N y = true ∧ ((r = [] ∧ okE T b sc N z = true) ∨ okE T b sc N (.BoolOp .And (z :: r) p) = true) := by
  cases x <;> first | exact fun h => ff h | skip
  intro h
  rename_i o ys p
  match o, ys, h with
  | .And, [], h => exact ff h
  | .Or, [], h => exact ff h
  | .And, [_], h => exact ff h
  | .Or, [_], h => exact ff h
  | .And, [_, _], h => exact ⟨_, _, _, _, rfl, a1 h, .inl ⟨rfl, a2 h⟩⟩
  | .And, _ :: _ :: _ :: _, h => exact ⟨_, _, _, _, rfl, a1 h, .inr (a2 h)⟩
  | .Or, _ :: _ :: _, h => exact ff h
theorem okE_or {a b : IE} : okE T (.or a b) sc N x = true → ∃ y z r p, x = .BoolOp .Or (y :: z :: r) p ∧ okE T a sc N y = true ∧ ((r = [] ∧ okE T b sc N z = true) ∨ okE T b sc N (.BoolOp .Or (z :: r) p) = true) := by
  cases x <;> first | exact fun h => ff h | skip
  intro h
  rename_i o ys p
  match o, ys, h with
  | .And, [], h => exact ff h
  | .Or, [], h => exact ff h
  | .And, [_], h => exact ff h
  | .Or, [_], h => exact ff h
  | .Or, [_, _], h => exact ⟨_, _, _, _, rfl, a1 h, .inl ⟨rfl, a2 h⟩⟩
  | .Or, _ :: _ :: _ :: _, h => exact ⟨_, _, _, _, rfl, a1 h, .inr (a2 h)⟩
  | .And, _ :: _ :: _, h => exact ff h
theorem okE_ife {t a b : IE} : okE T (.ife t a b) sc N x = true → ∃ y z w p, x = .IfExp y z w p ∧ okE T t sc N y = true ∧ okE T a sc N z = true ∧ okE T b sc N w = true := by
  cases x <;> first | exact fun h => ff h | skip
  exact fun h => ⟨_, _, _, _, rfl, a1 (a1 h), a2 (a1 h), a2 h⟩
theorem okE_sub {a i : IE} : okE T (.sub a i) sc N x = true → ∃ y z p, x = .Subscript y z p ∧ okE T a sc N y = true ∧ okE T i sc N z = true ∧ notSlice z = true := by
  cases x <;> first | exact fun h => ff h | skip
  exact fun h => ⟨_, _, _, rfl, a1 (a1 h), a2 (a1 h), a2 h⟩
theorem okE_slice {w : Bool} {a : IE} {lo hi : Option IE} : okE T (.slice w a lo hi) sc N x = true → ∃ y l u p q, x = .Subscript y (.Slice l u none p) q ∧ okE T a sc N y = true ∧ okP T lo sc N l = true ∧ okP T hi sc N u = true := by
  cases x <;> first | exact fun h => ff h | skip
  intro h
  rename_i y z p
  cases z <;> first | exact ff h | skip
  rename_i l u st q
  cases st with
  | some _ => exact ff h
  | none => exact ⟨_, _, _, _, _, rfl, a1 (a1 h), a2 (a1 h), a2 h⟩
theorem okE_rev {w : Bool} {a : IE} : okE T (.rev w a) sc N x = true → ∃ y k p1 p2 p3 q, x = .Subscript y (.Slice none none (some (.UnaryOp .USub (.Constant (.int 1) k p1) p2)) p3) q ∧ okE T a sc N y = true := by
  cases x <;> first | exact fun h => ff h | skip
  intro h
  rename_i y z p
  match z, h with
  | .Slice none none (some (.UnaryOp .USub (.Constant (.int 1) _ _) _)) _, h => exact ⟨_, _, _, _, _, _, rfl, h⟩
theorem okE_call {w : Bool} {f : Nat} {es : List IE} {ks : List (Nat × IE)} : okE T (.call w f es ks) sc N x = true → ∃ y p args kws q, x = .Call (.Name y p) args kws q ∧ y = T.nm f ∧ f ∈ T.fns ∧ sc.names.lookup y = some .globalImplicit ∧ dbgB y = false ∧ okEs T es sc N args = true ∧ okKs T ks sc N kws = true := by
  cases x <;> first | exact fun h => ff h | skip
  intro h
  rename_i g args kws q
  cases g <;> first | exact ff h | skip
  exact ⟨_, _, _, _, _, rfl, of_decide_eq_true (a1 (a1 (a1 (a1 (a1 h))))), by simpa using a2 (a1 (a1 (a1 (a1 h)))), glB_ok (a2 (a1 (a1 (a1 h)))), nt (a2 (a1 (a1 h))), a2 (a1 h), a2 h⟩
theorem okE_bi {w : Bool} {b : BI} {es : List IE} : okE T (.bi w b es) sc N x = true → ∃ y p args q, x = .Call (.Name y p) args [] q ∧ b.on = true ∧ y = Str.ofString b.name ∧ y ∈ T.free ∧ sc.names.lookup y = some .globalImplicit ∧ dbgB y = false ∧ okEs T es sc N args = true ∧ args ≠ [] := by
  cases x <;> first | exact fun h => ff h | skip
  intro h
  rename_i g args kws q
  cases g <;> first | exact ff h | skip
  cases kws <;> first | exact ff h | skip
  exact ⟨_, _, _, _, rfl, a1 (a1 (a1 (a1 (a1 (a1 h))))), of_decide_eq_true (a2 (a1 (a1 (a1 (a1 (a1 h)))))), by simpa using a2 (a1 (a1 (a1 (a1 h)))), glB_ok (a2 (a1 (a1 (a1 h)))), nt (a2 (a1 (a1 h))), a2 (a1 h), fun z => by subst z; exact ff (a2 h)⟩
theorem okE_meth {w : Bool} {m : MI} {e : IE} {es : List IE} : okE T (.meth w m e es) sc N x = true → ∃ y n ap args cp, x = .Call (.Attribute y n ap) args [] cp ∧ m.on = true ∧ n = Str.ofString m.name ∧ (ap.endLine == cp.line) = true ∧ notCall0 y = true ∧ okE T e sc N y = true ∧ okEs T es sc N args = true ∧ args.length < 20 := by
  cases x <;> first | exact fun h => ff h | skip
  intro h
  rename_i g args kws q
  cases g <;> first | exact ff h | skip
  cases kws <;> first | exact ff h | skip
  exact ⟨_, _, _, _, _, rfl, a1 (a1 (a1 (a1 (a1 (a1 h))))), of_decide_eq_true (a2 (a1 (a1 (a1 (a1 (a1 h)))))), a2 (a1 (a1 (a1 (a1 h)))), a2 (a1 (a1 (a1 h))), a2 (a1 (a1 h)), a2 (a1 h), of_decide_eq_true (a2 h)⟩
theorem okE_isi {e : IE} {cs : List IC} : okE T (.isi e cs) sc N x = true → ∃ y p z v q, x = .Call (.Name y p) [z, v] [] q ∧ y = ("isinstance" : Str) ∧ y ∈ T.free ∧ sc.names.lookup y = some .globalImplicit ∧ okE T e sc N z = true ∧ ((∃ d, cs = [d] ∧ icB T sc d v = true) ∨ (∃ vs j r, v = .Tuple vs j r ∧ icsB T sc cs vs = true)) := by
  cases x <;> first | exact fun h => ff h | skip
  intro h
  rename_i g args kws q
  cases g <;> first | exact ff h | skip
  match args, kws, h with
  | [z, v], [], h =>
    refine ⟨_, _, _, _, _, rfl, of_decide_eq_true (a1 (a1 (a1 (a1 h)))), by simpa using a2 (a1 (a1 (a1 h))), glB_ok (a2 (a1 (a1 h))), a2 (a1 h), ?_⟩
    have h2 := a2 h
    split at h2
    · exact .inl ⟨_, rfl, h2⟩
    · exact .inr ⟨_, _, _, rfl, h2⟩
    · exact ff h2
  | [], _, h => exact ff h
  | [_], _, h => exact ff h
  | _ :: _ :: _ :: _, _, h => exact ff h
  | [_, _], _ :: _, h => exact ff h
theorem okE_comp {w : Bool} {elt : IE} {tg : ITg} {k : IK} {it ts : List IE} : okE T (.comp w elt tg k it ts) sc N x = true → ∃ e t i ifs scope p xs, x = .ListComp e [⟨t, i, ifs, 0⟩] scope p ∧ L2.blkC N sc scope (ownOf tg N) = true ∧ tgB false (relS scope sc) N tg t = true ∧ itArgs T sc k i = some xs ∧ okEs T it sc N xs = true ∧ okEs T ts (relS scope sc) N ifs = true ∧ ifs.length ≤ 1 ∧ okE T elt (relS scope sc) N e = true ∧ notSet i = true ∧ tg.slots.Nodup := by
  cases x <;> first | exact fun h => ff h | skip
  intro h
  rename_i e gs scope p
  match gs, h with
  | [], h => exact ff h
  | ⟨t, i, ifs, 0⟩ :: [], h =>
    have h3 := a2 (a1 (a1 (a1 (a1 (a1 h)))))
    cases e : itArgs T sc k i with
    | none => rw [e] at h3; exact ff h3
    | some xs => rw [e] at h3; exact ⟨_, _, _, _, _, _, _, rfl, a1 (a1 (a1 (a1 (a1 (a1 (a1 h)))))), a2 (a1 (a1 (a1 (a1 (a1 (a1 h)))))), e, h3, a2 (a1 (a1 (a1 (a1 h)))), of_decide_eq_true (a2 (a1 (a1 (a1 h)))), a2 (a1 (a1 h)), a2 (a1 h), of_decide_eq_true (a2 h)⟩
  | ⟨t, i, ifs, Nat.succ n⟩ :: [], h => exact ff h
  | ⟨t, i, ifs, 0⟩ :: _ :: _, h => exact ff h
  | ⟨t, i, ifs, Nat.succ n⟩ :: _ :: _, h => exact ff h
end
end PI

set_option maxRecDepth 100000
set_option maxHeartbeats 1000000
namespace PI
open PySem PySem.Spec PyProof.Rows L2

/-- what a comparison gives -/
def Bls (f : SL → LH → R V2) : Prop := ∀ sl L x L', f sl L = .ok x L' → ∃ b, x = .val (.bl b)
section
variable {G : Gd} {pn : Pn} {W : WX} {X : Cx} {σ : L2.St} {H : Hp} {c : Cl} {a b d x y z w : Expr} {p : Pos}
theorem two {f g : SL → LH → R V2} {h : V2 → V2 → LH → R V2} {Q : VK} (hq : rdE G pn W (fun sl L => (f sl L).bind fun x L1 => (g sl L1).bind fun y L2 => h x y L2) σ H Q) : tOp (rd2 G pn h) (rdE G pn W f) (rdE G pn W g) σ H Q := by
  obtain ⟨φ, sl, L, hR, hS, hF⟩ := hq
  exact (bindE hR hS hF).mono fun u H1 ⟨φ1, L1, x, hR1, e1, r1, hS1, hF1⟩ => (bindE hR1 hS1 hF1).mono fun v H2 ⟨φ2, L2, y, hR2, e2, r2, hS2, hF2⟩ =>
    ⟨_, φ2, L2, x, y, hR2, RV.go e2 r1, r2, hF2⟩
theorem tru (hK : X.K = G.K) {f : SL → LH → R V2} {Q : Bool → Hp → Prop} (hq : rdT G pn W (fun sl L => (f sl L).bind fun x L1 => R.opt (x.truth L1) L1) σ H Q) : rdE G pn W f σ H (fun x H' => ∃ k, TruV X.K x H' k ∧ Q k H') := by
  obtain ⟨φ, sl, L, hR, hS, hF⟩ := hq
  rw [hK]
  refine (bindE hR hS hF).mono fun u H1 ⟨φ1, L1, x, hR1, e1, r1, hS1, hF1⟩ => ?_
  cases e : x.truth L1 with
  | none => rw [e] at hF1; exact hF1.elim
  | some k =>
    rw [e] at hF1
    exact ⟨k, truth_ok hR1 r1 e, hF1 φ1 k H1 hR1 (Ext.refl _ _ _ _) rfl⟩
theorem trub {f : SL → LH → R V2} (hf : Bls f) {Q : Bool → Hp → Prop} (hq : rdT G pn W (fun sl L => (f sl L).bind fun x L1 => R.opt (x.truth L1) L1) σ H Q) : rdE G pn W f σ H (fun x H' => ∃ k, x = .bl k ∧ Q k H') := by
  obtain ⟨φ, sl, L, hR, hS, hF⟩ := hq
  refine ⟨φ, sl, L, hR, hS, ?_⟩
  simp only at hF
  cases e : f sl L with
  | stuck => rw [e] at hF; exact hF
  | exc C fs L1 => rw [e] at hF; exact hF
  | ok x L1 =>
    rw [e] at hF
    obtain ⟨k, rfl⟩ := hf _ _ _ _ e
    exact fun φ' v H' h1 e1 r1 => ⟨k, r1, hF φ' k H' h1 e1 rfl⟩
/-- a test by truth -/
theorem ptv (hK : X.K = G.K) {e : IE} (h : PE X x (rdE G pn W (ev c e))) (he : ∀ whole, isTrue x X.env whole = (do let v ← whole; standAt x.pos; holding [v] (truthy v))) : PT X x (rdT G pn W (evt c e)) := (pt_truth h he).imp fun _ _ _ q => tru hK q

theorem snd_v {i : Nat} {n : Str} (hN : X.N[i]? = some n) (hv : Vis X.env.scope n) (h1 : dbgB n = false) (h2 : cdB n = false) : PE X (.Name n p) (rdE G pn W (ev c (.v i))) := by
  refine (pe_var hN hv h1 h2).imp fun σ H Q ⟨φ, sl, L, hR, hS, hF⟩ => ?_
  simp only [ev] at hF
  cases e : sl[i]? with
  | none => rw [e] at hF; exact hF.elim
  | some o =>
    cases o with
    | none => rw [e] at hF; exact hF.elim
    | some x =>
      rw [e] at hF
      obtain ⟨v, e1, r⟩ := hS.2 i x e
      exact ⟨v, e1, fin_v2 hR hF r⟩
theorem snd_c {d : D} {k : Const} {j : Nat} (h : constB d k = true) : PE X (.Constant k j p) (rdE G pn W (ev c (.c d))) := by
  have go : ∀ {v : V}, (∀ O H, RD G O H d v) → ∀ σ H Q, rdE G pn W (ev c (.c d)) σ H Q → tC v σ H Q := fun {v} r σ H Q ⟨φ, sl, L, hR, hS, hF⟩ => by
    simp only [ev] at hF
    exact fin_val hR hF (r _ _)
  cases d <;> cases k <;> first | exact ff h | skip
  · exact pe_non.imp (go fun _ _ => rfl)
  · have e := beq_iff_eq.mp (show (_ == _) = true from h)
    subst e
    exact pe_bl.imp (go fun _ _ => rfl)
  · have e := of_decide_eq_true (show decide (_ = _) = true from h)
    subst e
    exact pe_int.imp (go fun _ _ => rfl)
  · rename_i s z
    have e : z = ⟨s.toArray⟩ := of_decide_eq_true (a1 (a1 h))
    subst e
    refine pe_str.imp (go fun _ _ => ⟨rfl, fun c hc => ?_, of_decide_eq_true (a2 h)⟩)
    have q := List.all_eq_true.mp (a2 (a1 h)) c hc
    exact of_decide_eq_true q
theorem snd_g {T : Tb} {P : Prog} {g : Nat} {n : Str} (ft : Ft G T P X.mg) (hc : c.glob = P.glob) (hn : n = T.nm g) (hg : g ∈ T.globs) (hl : Gl X n) (hd : dbgB n = false) : PE X (.Name n p) (rdE G pn W (ev c (.g g))) := by
  subst hn
  obtain ⟨v, u, e1, e2, r⟩ := ft.glob g hg
  refine (pe_glob hl e1 e2 hd).imp fun σ H Q ⟨φ, sl, L, hR, hS, hF⟩ => ?_
  simp only [ev, hc] at hF
  exact fin_val hR hF (r G.B _ _)
theorem snd_bin (hK : X.K = G.K) {op : OpB} {own : Bool} {e f : IE} (ha : PE X a (rdE G pn W (ev c e))) (hb : PE X b (rdE G pn W (ev c f))) : PE X (.BinOp a op.py b p) (rdE G pn W (ev c (.bin op own e f))) :=
  (pe_op (ok_bin (pn := pn) hK own op) ha hb).imp fun σ H Q ⟨φ, sl, L, hR, hS, hF⟩ => two ⟨φ, sl, L, hR, hS, by simp only [ev] at hF; exact hF⟩
theorem mark_of {op : OpC} (h : notSet b = true) : behindInMarks op.py b = false := by
  cases b <;> first | exact ff h | rfl
theorem bls_cmp {op : OpC} {e f : IE} : Bls (ev c (.cmp op e f)) := by
  intro sl L x L' h
  simp only [ev] at h
  cases h1 : ev c e sl L with
  | stuck => rw [h1] at h; cases h
  | exc C fs L1 => rw [h1] at h; cases h
  | ok y L1 =>
    rw [h1] at h
    simp only [R.bind_ok] at h
    cases h2 : ev c f sl L1 with
    | stuck => rw [h2] at h; cases h
    | exc C fs L1 => rw [h2] at h; cases h
    | ok z L2 =>
      rw [h2] at h
      simp only [R.bind_ok, cmpR] at h
      split at h
      · cases h; exact ⟨_, rfl⟩
      · cases h
theorem snd_cmp (hK : X.K = G.K) (hu : X.A.units + 64 < cLine) {op : OpC} {e f : IE} (hm : notSet b = true) (ha : PE X a (rdE G pn W (ev c e))) (hb : PE X b (rdE G pn W (ev c f))) : PE X (.Compare a [op.py] [b] p) (rdE G pn W (ev c (.cmp op e f))) ∧ PT X (.Compare a [op.py] [b] p) (rdT G pn W (evt c (.cmp op e f))) :=
  ⟨(pe_cmpR (ok_cmp (pn := pn) hK hu op) ha hb (mark_of hm)).imp fun σ H Q ⟨φ, sl, L, hR, hS, hF⟩ => two ⟨φ, sl, L, hR, hS, by simp only [ev] at hF; exact hF⟩,
    (pt_cmpR (ok_cmp (pn := pn) hK hu op) ha hb (mark_of hm)).imp fun σ H Q q => by
      obtain ⟨φ, sl, L, hR, hS, hF⟩ := trub bls_cmp q
      exact two ⟨φ, sl, L, hR, hS, by simp only [ev] at hF; exact hF⟩⟩
theorem snd_neg {e : IE} (ha : PE X a (rdE G pn W (ev c e))) : PE X (.UnaryOp .USub a p) (rdE G pn W (ev c (.neg e))) :=
  (pe_un un_neg ha).imp fun σ H Q ⟨φ, sl, L, hR, hS, hF⟩ => by
    simp only [ev] at hF
    refine (bindE hR hS hF).mono fun u H1 ⟨φ1, L1, x, hR1, e1, r1, hS1, hF1⟩ => ?_
    match x, r1, hF1 with
    | .val (.int i), r1, hF1 => exact ⟨i, r1, fin_val hR1 hF1 rfl⟩
    | .val .non, _, hF1 => exact hF1.elim
    | .val (.bl _), _, hF1 => exact hF1.elim
    | .val (.str _), _, hF1 => exact hF1.elim
    | .val (.tup _), _, hF1 => exact hF1.elim
    | .val (.lst _), _, hF1 => exact hF1.elim
    | .val (.dct _), _, hF1 => exact hF1.elim
    | .val (.ins _ _), _, hF1 => exact hF1.elim
    | .ref _, _, hF1 => exact hF1.elim
    | .exn _ _, _, hF1 => exact hF1.elim
theorem snd_not (hK : X.K = G.K) {e : IE} (ha : PE X a (rdE G pn W (ev c e))) (ht : PT X a (rdT G pn W (evt c e))) : PE X (.UnaryOp .Not a p) (rdE G pn W (ev c (.not e))) ∧ PT X (.UnaryOp .Not a p) (rdT G pn W (evt c (.not e))) := by
  refine ⟨(pe_notT ha).imp fun σ H Q ⟨φ, sl, L, hR, hS, hF⟩ => ?_, (pt_not ht).imp fun σ H Q ⟨φ, sl, L, hR, hS, hF⟩ => ?_⟩
  · simp only [ev] at hF
    unfold tNotT
    rw [hK]
    refine (bindE hR hS hF).mono fun u H1 ⟨φ1, L1, x, hR1, e1, r1, hS1, hF1⟩ => ?_
    cases e : x.truth L1 with
    | none => rw [e] at hF1; exact hF1.elim
    | some k => rw [e] at hF1; exact ⟨k, truth_ok hR1 r1 e, fin_val hR1 hF1 rfl⟩
  · refine ⟨φ, sl, L, hR, hS, ?_⟩
    simp only [evt, ev] at hF ⊢
    cases h1 : ev c e sl L with
    | stuck => rw [h1] at hF; exact hF
    | exc C fs L1 => rw [h1] at hF; exact hF
    | ok x L1 =>
      rw [h1] at hF
      simp only [R.bind_ok] at hF ⊢
      cases e : x.truth L1 with
      | none => rw [e] at hF; exact hF
      | some k => rw [e] at hF; exact fun φ' v H' h1 e1 r1 => r1 ▸ hF φ' (!k) H' h1 e1 rfl
theorem evt_and (e f : IE) (sl : SL) (L : LH) : evt c (.and e f) sl L = (evt c e sl L).bind fun k L1 => if k = true then evt c f sl L1 else .ok false L1 := by
  simp only [evt, ev]
  cases ev c e sl L with
  | stuck => rfl
  | exc C fs L1 => rfl
  | ok x L1 =>
    simp only [R.bind_ok]
    cases h : x.truth L1 with
    | none => rfl
    | some k => cases k <;> simp [h]
theorem evt_or (e f : IE) (sl : SL) (L : LH) : evt c (.or e f) sl L = (evt c e sl L).bind fun k L1 => if k = true then .ok true L1 else evt c f sl L1 := by
  simp only [evt, ev]
  cases ev c e sl L with
  | stuck => rfl
  | exc C fs L1 => rfl
  | ok x L1 =>
    simp only [R.bind_ok]
    cases h : x.truth L1 with
    | none => rfl
    | some k => cases k <;> simp [h]
theorem ev_ife (t e f : IE) (sl : SL) (L : LH) : ev c (.ife t e f) sl L = (evt c t sl L).bind fun k L1 => if k = true then ev c e sl L1 else ev c f sl L1 := by
  simp only [evt, ev]
  cases ev c t sl L with
  | stuck => rfl
  | exc C fs L1 => rfl
  | ok x L1 =>
    simp only [R.bind_ok]
    cases h : x.truth L1 with
    | none => rfl
    | some k => cases k <;> simp [h]
theorem R.bind_assoc' {α β γ : Type} (r : R α) (f : α → LH → R β) (g : β → LH → R γ) : (r.bind f).bind g = r.bind fun a L => (f a L).bind g := by cases r <;> rfl
theorem evt_ife (t e f : IE) (sl : SL) (L : LH) : evt c (.ife t e f) sl L = (evt c t sl L).bind fun k L1 => if k = true then evt c e sl L1 else evt c f sl L1 := by
  show (ev c (.ife t e f) sl L).bind _ = _
  rw [ev_ife, R.bind_assoc']
  congr 1
  funext k L1
  cases k <;> rfl
/-- tb stands for the rest -/
theorem snd_and (hK : X.K = G.K) {e f : IE} {r : List Expr} (ha : PE X a (rdE G pn W (ev c e))) (hta : PT X a (rdT G pn W (evt c e))) (hb : PE X (.BoolOp .And (b :: r) p) (rdE G pn W (ev c f))) (htb : PW X (.BoolOp .And (b :: r) p) (rdT G pn W (evt c f))) :
    PE X (.BoolOp .And (a :: b :: r) p) (rdE G pn W (ev c (.and e f))) ∧ PW X (.BoolOp .And (a :: b :: r) p) (rdT G pn W (evt c (.and e f))) := by
  refine ⟨(pe_andT ha hb).imp fun σ H Q ⟨φ, sl, L, hR, hS, hF⟩ => ?_, ⟨fun wh pins s σ H Q I h => (pw_and hta htb).run wh pins s σ H Q I ?_⟩⟩
  · simp only [ev] at hF
    unfold tAndT
    rw [hK]
    refine (bindE hR hS hF).mono fun u H1 ⟨φ1, L1, x, hR1, e1, r1, hS1, hF1⟩ => ?_
    cases e : x.truth L1 with
    | none => rw [e] at hF1; exact hF1.elim
    | some k =>
      rw [e] at hF1
      refine ⟨k, truth_ok hR1 r1 e, ?_⟩
      cases k with
      | true => exact ⟨φ1, sl, L1, hR1, hS1, hF1⟩
      | false => exact fin_v2 hR1 hF1 r1
  · obtain ⟨φ, sl, L, hR, hS, hF⟩ := h
    rw [evt_and] at hF
    refine (bindT hR hS hF).mono fun k H1 ⟨φ1, L1, hR1, e1, hS1, hF1⟩ => ?_
    cases k with
    | true => exact ⟨φ1, sl, L1, hR1, hS1, hF1⟩
    | false => exact hF1 φ1 false H1 hR1 (Ext.refl _ _ _ _) rfl
theorem snd_or (hK : X.K = G.K) {e f : IE} {r : List Expr} (ha : PE X a (rdE G pn W (ev c e))) (hta : PT X a (rdT G pn W (evt c e))) (hb : PE X (.BoolOp .Or (b :: r) p) (rdE G pn W (ev c f))) (htb : PW X (.BoolOp .Or (b :: r) p) (rdT G pn W (evt c f))) :
    PE X (.BoolOp .Or (a :: b :: r) p) (rdE G pn W (ev c (.or e f))) ∧ PW X (.BoolOp .Or (a :: b :: r) p) (rdT G pn W (evt c (.or e f))) := by
  refine ⟨(pe_orT ha hb).imp fun σ H Q ⟨φ, sl, L, hR, hS, hF⟩ => ?_, ⟨fun wh pins s σ H Q I h => (pw_or hta htb).run wh pins s σ H Q I ?_⟩⟩
  · simp only [ev] at hF
    unfold tOrT
    rw [hK]
    refine (bindE hR hS hF).mono fun u H1 ⟨φ1, L1, x, hR1, e1, r1, hS1, hF1⟩ => ?_
    cases e : x.truth L1 with
    | none => rw [e] at hF1; exact hF1.elim
    | some k =>
      rw [e] at hF1
      refine ⟨k, truth_ok hR1 r1 e, ?_⟩
      cases k with
      | true => exact fin_v2 hR1 hF1 r1
      | false => exact ⟨φ1, sl, L1, hR1, hS1, hF1⟩
  · obtain ⟨φ, sl, L, hR, hS, hF⟩ := h
    rw [evt_or] at hF
    refine (bindT hR hS hF).mono fun k H1 ⟨φ1, L1, hR1, e1, hS1, hF1⟩ => ?_
    cases k with
    | true => exact hF1 φ1 true H1 hR1 (Ext.refl _ _ _ _) rfl
    | false => exact ⟨φ1, sl, L1, hR1, hS1, hF1⟩
theorem pt_ife {t : Expr} {tc ta tb : TT} (hc : PT X t tc) (ha : PT X a ta) (hb : PT X b tb) : PT X (.IfExp t a b p) (fun σ H Q => tc σ H fun k H1 => if k = true then ta σ H1 Q else tb σ H1 Q) := by
  refine ⟨fun pins s σ H Q I h => ?_⟩
  refine isTrue_IfExp (thn (hc.run pins s σ H _ I h) fun d s1 ⟨H1, I1, q1⟩ => ?_)
  cases d with
  | true => exact ha.run pins s1 σ H1 Q I1 q1
  | false => exact hb.run pins s1 σ H1 Q I1 q1
theorem snd_ife {t e f : IE} {tx : Expr} (ht : PT X tx (rdT G pn W (evt c t))) (ha : PE X a (rdE G pn W (ev c e))) (hta : PT X a (rdT G pn W (evt c e))) (hb : PE X b (rdE G pn W (ev c f))) (htb : PT X b (rdT G pn W (evt c f))) :
    PE X (.IfExp tx a b p) (rdE G pn W (ev c (.ife t e f))) ∧ PT X (.IfExp tx a b p) (rdT G pn W (evt c (.ife t e f))) := by
  refine ⟨(pe_ifExp ht ha hb).imp fun σ H Q ⟨φ, sl, L, hR, hS, hF⟩ => ?_, (pt_ife ht hta htb).imp fun σ H Q ⟨φ, sl, L, hR, hS, hF⟩ => ?_⟩
  · rw [ev_ife] at hF
    refine (bindT hR hS hF).mono fun k H1 ⟨φ1, L1, hR1, e1, hS1, hF1⟩ => ?_
    cases k with
    | true => exact ⟨φ1, sl, L1, hR1, hS1, hF1⟩
    | false => exact ⟨φ1, sl, L1, hR1, hS1, hF1⟩
  · rw [evt_ife] at hF
    refine (bindT hR hS hF).mono fun k H1 ⟨φ1, L1, hR1, e1, hS1, hF1⟩ => ?_
    cases k with
    | true => exact ⟨φ1, sl, L1, hR1, hS1, hF1⟩
    | false => exact ⟨φ1, sl, L1, hR1, hS1, hF1⟩
theorem plain_of (h : notSlice b = true) : PlainIx b := by
  intro o i
  cases b <;> first | exact ff h | rfl
theorem snd_sub (hK : X.K = G.K) {e f : IE} (hs : notSlice b = true) (ha : PE X a (rdE G pn W (ev c e))) (hb : PE X b (rdE G pn W (ev c f))) : PE X (.Subscript a b p) (rdE G pn W (ev c (.sub e f))) :=
  (pe_ix (ok_sub (pn := pn) hK) ha hb (plain_of hs)).imp fun σ H Q ⟨φ, sl, L, hR, hS, hF⟩ => two ⟨φ, sl, L, hR, hS, by simp only [ev] at hF; exact hF⟩
theorem snd_po {e : IE} (h : PE X a (rdE G pn W (ev c e))) : PO X (some a) (rdP G pn W (evp c (some e))) := by
  refine ⟨fun pins s σ H Q I hw => (po_some h).run pins s σ H Q I ?_⟩
  obtain ⟨φ, sl, L, hR, hS, hF⟩ := hw
  simp only [evp] at hF
  refine (bindE hR hS hF).mono fun u H1 ⟨φ1, L1, x, hR1, e1, r1, hS1, hF1⟩ => ?_
  cases e : x.int? with
  | none => rw [e] at hF1; exact hF1.elim
  | some i =>
    rw [e] at hF1
    exact ⟨i, (RV.int r1 e).1, hF1 φ1 _ H1 hR1 (Ext.refl _ _ _ _) rfl⟩
theorem snd_po0 : PO X none (rdP G pn W (evp c none)) := by
  refine ⟨fun pins s σ H Q I hw => po_none.run pins s σ H Q I ?_⟩
  obtain ⟨φ, sl, L, hR, hS, hF⟩ := hw
  simp only [evp] at hF
  exact hF φ _ H hR (Ext.refl _ _ _ _) rfl
theorem snd_slice (hK : X.K = G.K) {own : Bool} {e : IE} {lo hi : Option IE} {l u : Option Expr} {p2 : Pos} (ha : PE X a (rdE G pn W (ev c e))) (hl : PO X l (rdP G pn W (evp c lo))) (hu : PO X u (rdP G pn W (evp c hi))) : PE X (.Subscript a (.Slice l u none p2) p) (rdE G pn W (ev c (.slice own e lo hi))) := by
  refine (pe_slice (ok_slice (pn := pn) hK own) ha hl hu).imp fun σ H Q ⟨φ, sl, L, hR, hS, hF⟩ => ?_
  simp only [ev] at hF
  exact (bindE hR hS hF).mono fun v H1 ⟨φ1, L1, x, hR1, e1, r1, hS1, hF1⟩ => (bindP' hR1 hS1 hF1).mono fun l H2 ⟨φ2, L2, hR2, e2, hS2, hF2⟩ => (bindP' hR2 hS2 hF2).mono fun u H3 ⟨φ3, L3, hR3, e3, hS3, hF3⟩ =>
    ⟨_, φ3, L3, x, hR3, RV.go e3 (RV.go e2 r1), hF3⟩
theorem snd_rev (hK : X.K = G.K) {own : Bool} {e : IE} {k : Nat} {p1 p2 p3 : Pos} (ha : PE X a (rdE G pn W (ev c e))) : PE X (.Subscript a (.Slice none none (some (.UnaryOp .USub (.Constant (.int 1) k p1) p2)) p3) p) (rdE G pn W (ev c (.rev own e))) := by
  refine (pe_revL ha).imp fun σ H Q ⟨φ, sl, L, hR, hS, hF⟩ => ?_
  simp only [ev] at hF
  unfold tRevL
  rw [hK]
  refine (bindE hR hS hF).mono fun v H1 ⟨φ1, L1, x, hR1, e1, r1, hS1, hF1⟩ => ?_
  unfold revV at hF1
  cases e : x.lst? L1 with
  | none => rw [e] at hF1; exact hF1.elim
  | some xs =>
    rw [e] at hF1
    obtain ⟨l, vs, rfl, hl, rs⟩ := RV.lst hR1 r1 e
    exact ⟨l, vs, rfl, .inl hl, (fin_newL hR1 hF1 rs.rev).2⟩
/-- argument lists -/
theorem star_of {es : List Expr} (h : notStar a = true) : starEach (a :: es) X.env = (false, eval a X.env) :: starEach es X.env := by
  cases a <;> first | exact ff h | rfl
theorem snd_nil : PA X [] (rdA G pn W (evs c [])) := pa_nil.imp fun σ H Q ⟨φ, sl, L, hR, hS, hF⟩ => by
  simp only [evs] at hF
  exact hF φ [] H hR (Ext.refl _ _ _ _) rfl
theorem snd_cons {e : IE} {es : List IE} {xs : List Expr} (hs : notStar a = true) (ha : PE X a (rdE G pn W (ev c e))) (hr : PA X xs (rdA G pn W (evs c es))) : PA X (a :: xs) (rdA G pn W (evs c (e :: es))) := by
  refine (pa_cons ha hr (star_of hs)).imp fun σ H Q ⟨φ, sl, L, hR, hS, hF⟩ => ?_
  simp only [evs] at hF
  refine (bindE hR hS hF).mono fun v H1 ⟨φ1, L1, x, hR1, e1, r1, hS1, hF1⟩ => (bindA hR1 hS1 hF1).mono fun vs H2 ⟨φ2, L2, ys, hR2, e2, r2, hS2, hF2⟩ => ?_
  exact hF2 φ2 _ H2 hR2 (Ext.refl _ _ _ _) ⟨v, vs, rfl, RV.go e2 r1, r2⟩
theorem _root_.L2.PK.imp {es : List Keyword} {t t' : TA} (h : PK X es t) (k : ∀ σ H Q, t' σ H Q → t σ H Q) : PK X es t' := ⟨fun pos pins s σ H Q I q => h.run pos pins s σ H Q I (k σ H Q q)⟩
theorem snd_knil : PK X [] (rdK G pn W (evk c [])) := pk_nil.imp fun σ H Q ⟨φ, sl, L, hR, hS, hF⟩ => by
  simp only [evk] at hF
  exact hF φ [] H hR (Ext.refl _ _ _ _) rfl
theorem snd_kcons {n : Nat} {nm : Option Str} {kp : Pos} {e : IE} {es : List (Nat × IE)} {xs : List Keyword} (ha : PE X a (rdE G pn W (ev c e))) (hr : PK X xs (rdK G pn W (evk c es))) : PK X (⟨nm, a, kp⟩ :: xs) (rdK G pn W (evk c ((n, e) :: es))) := by
  refine L2.PK.imp (pk_cons ha hr) fun σ H Q ⟨φ, sl, L, hR, hS, hF⟩ => ?_
  simp only [evk] at hF
  refine (bindE hR hS hF).mono fun v H1 ⟨φ1, L1, x, hR1, e1, r1, hS1, hF1⟩ => (bindK hR1 hS1 hF1).mono fun vs H2 ⟨φ2, L2, ys, hR2, e2, r2, hS2, hF2⟩ => ?_
  exact hF2 φ2 _ H2 hR2 (Ext.refl _ _ _ _) ⟨v, vs, rfl, RV.go e2 r1, r2⟩
theorem dats_rv {φ : List Addr} {O : Addr → Prop} : ∀ {xs : List V2} {ds : List D} {vs : List V}, dats xs = some ds → RVs G pn φ O H xs vs → RDs G O H ds vs
  | [], ds, vs, e, r => by
    cases e
    exact r
  | .val x :: xs, ds, vs, e, r => by
    obtain ⟨v, q, rfl, h1, h2⟩ := r
    simp only [dats] at e
    cases h : dats xs with
    | none => rw [h] at e; cases e
    | some ys =>
      rw [h] at e
      cases e
      exact ⟨v, q, rfl, h1, dats_rv h h2⟩
  | .ref _ :: xs, ds, vs, e, r => by cases e
  | .exn _ _ :: xs, ds, vs, e, r => by cases e
theorem snd_tup {es : List IE} {xs : List Expr} (h : PA X xs (rdA G pn W (evs c es))) : ∀ {j}, PE X (.Tuple xs j p) (rdE G pn W (ev c (.tup es))) := by
  intro j
  refine (pe_tup h).imp fun σ H Q ⟨φ, sl, L, hR, hS, hF⟩ => ?_
  simp only [ev] at hF
  refine (bindA hR hS hF).mono fun vs H1 ⟨φ1, L1, x, hR1, e1, r1, hS1, hF1⟩ => ?_
  cases e : dats x with
  | none => rw [e] at hF1; exact hF1.elim
  | some ds => rw [e] at hF1; exact fin_newT hR1 hF1 (dats_rv e r1)
theorem snd_lst {own : Bool} {es : List IE} {xs : List Expr} (h : PA X xs (rdA G pn W (evs c es))) : PE X (.List xs p) (rdE G pn W (ev c (.lst own es))) := by
  refine (pe_lst h).imp fun σ H Q ⟨φ, sl, L, hR, hS, hF⟩ => ?_
  simp only [ev] at hF
  refine (bindA hR hS hF).mono fun vs H1 ⟨φ1, L1, x, hR1, e1, r1, hS1, hF1⟩ => ?_
  cases e : dats x with
  | none => rw [e] at hF1; exact hF1.elim
  | some ds => rw [e] at hF1; exact fin_newL hR1 hF1 (dats_rv e r1)
theorem cmpR_b {op : OpC} {x y : V2} {L : LH} {α : Type} {RelB : List Addr → LH → Hp → α → V → Prop} : (∃ b, cmpR op x y L = .ok (.val (.bl b)) L) ∨ cmpR op x y L = .stuck := by
  unfold cmpR
  split
  · exact .inl ⟨_, rfl⟩
  · exact .inr rfl
theorem bls_chain {o1 o2 : OpC} {e f g : IE} : Bls (ev c (.chain o1 o2 e f g)) := by
  intro sl L x L' h
  simp only [ev] at h
  cases h1 : ev c e sl L with
  | stuck => rw [h1] at h; cases h
  | exc C fs L1 => rw [h1] at h; cases h
  | ok y L1 =>
    rw [h1] at h
    simp only [R.bind_ok] at h
    cases h2 : ev c f sl L1 with
    | stuck => rw [h2] at h; cases h
    | exc C fs L1 => rw [h2] at h; cases h
    | ok z L2 =>
      rw [h2] at h
      simp only [R.bind_ok] at h
      rcases cmpR_b (op := o1) (x := y) (y := z) (L := L2) (α := V2) (RelB := fun _ _ _ _ _ => True) with ⟨b, hb⟩ | hb
      · rw [hb] at h
        simp only [R.bind_ok] at h
        cases b with
        | false => cases h; exact ⟨_, rfl⟩
        | true =>
          simp only at h
          cases h3 : ev c g sl L2 with
          | stuck => rw [h3] at h; cases h
          | exc C fs L1 => rw [h3] at h; cases h
          | ok w L3 =>
            rw [h3] at h
            simp only [R.bind_ok] at h
            rcases cmpR_b (op := o2) (x := z) (y := w) (L := L3) (α := V2) (RelB := fun _ _ _ _ _ => True) with ⟨b, hb⟩ | hb
            · rw [hb] at h; cases h; exact ⟨_, rfl⟩
            · rw [hb] at h; cases h
      · rw [hb] at h; cases h
theorem rd_chain {o1 o2 : OpC} {e f g : IE} {Q : VK} (h : rdE G pn W (ev c (.chain o1 o2 e f g)) σ H Q) : tChain (rd2 G pn (cmpR o1)) (rd2 G pn (cmpR o2)) (rdE G pn W (ev c e)) (rdE G pn W (ev c f)) (rdE G pn W (ev c g)) σ H Q := by
  obtain ⟨φ, sl, L, hR, hS, hF⟩ := h
  simp only [ev] at hF
  refine (bindE hR hS hF).mono fun u H1 ⟨φ1, L1, x, hR1, e1, r1, hS1, hF1⟩ => (bindE hR1 hS1 hF1).mono fun v H2 ⟨φ2, L2, y, hR2, e2, r2, hS2, hF2⟩ => ?_
  refine ⟨WEx G W σ, φ2, L2, x, y, hR2, RV.go e2 r1, r2, ?_⟩
  rcases cmpR_b (op := o1) (x := x) (y := y) (L := L2) (α := V2) (RelB := fun _ _ _ _ _ => True) with ⟨b, hb⟩ | hb
  · rw [hb] at hF2 ⊢
    simp only [R.bind_ok] at hF2
    intro φ3 w H3 hR3 e3 r3
    refine ⟨b, r3, ?_⟩
    cases b with
    | false => exact hF2 φ3 _ H3 hR3 e3 rfl
    | true =>
      have hF3 := Fin.ext e3 hF2
      exact (bindE hR3 (hS2.go e3) hF3).mono fun w H4 ⟨φ4, L4, z, hR4, e4, r4, hS4, hF4⟩ => ⟨_, φ4, L4, y, z, hR4, RV.go e4 (RV.go e3 r2), r4, hF4⟩
  · rw [hb] at hF2; exact hF2.elim
theorem snd_chain (hK : X.K = G.K) (hu : X.A.units + 64 < cLine) {o1 o2 : OpC} {e f g : IE} (hm : notSet d = true) (ha : PE X a (rdE G pn W (ev c e))) (hb : PE X b (rdE G pn W (ev c f))) (hd : PE X d (rdE G pn W (ev c g))) :
    PE X (.Compare a [o1.py, o2.py] [b, d] p) (rdE G pn W (ev c (.chain o1 o2 e f g))) ∧ PT X (.Compare a [o1.py, o2.py] [b, d] p) (rdT G pn W (evt c (.chain o1 o2 e f g))) := by
  have hmk : lastMarks [o1.py, o2.py] [b, d] = false := mark_of (op := o2) hm
  exact ⟨(pe_chain (ok_cmp (pn := pn) hK hu o1) (ok_cmp (pn := pn) hK hu o2) ha hb hd hmk).imp fun σ H Q q => rd_chain q,
    (pt_chain (ok_cmp (pn := pn) hK hu o1) (ok_cmp (pn := pn) hK hu o2) ha hb hd hmk).imp fun σ H Q q => rd_chain (trub bls_chain q)⟩
end
end PI

set_option maxRecDepth 100000
set_option maxHeartbeats 1000000
namespace PI
open PySem PySem.Spec PyProof.Rows L2

theorem okEs_star {T : Tb} {sc : Scope} {N : List Str} {env : Env} : ∀ {es : List IE} {xs : List Expr}, okEs T es sc N xs = true → ∀ pos, (backTo pos (starEach xs env)).any (·.1) = false
  | [], [], _, _ => rfl
  | _ :: _, [], h, _ => ff h
  | [], _ :: _, h, _ => ff h
  | e :: es, x :: xs, h, pos => by
    have hs : notStar x = true := a2 (a1 h)
    have q := okEs_star (env := env) (a2 h) pos
    have e1 : starEach (x :: xs) env = (false, eval x env) :: starEach xs env := by cases x <;> first | exact ff hs | rfl
    rw [e1]
    show (false || (backTo pos (starEach xs env)).any (·.1)) = false
    rw [q]
    rfl
theorem okEs_len {T : Tb} {sc : Scope} {N : List Str} : ∀ {es : List IE} {xs : List Expr}, okEs T es sc N xs = true → es.length = xs.length
  | [], [], _ => rfl
  | _ :: _, [], h => ff h
  | [], _ :: _, h => ff h
  | e :: es, x :: xs, h => by simp [okEs_len (a2 h)]
theorem okKs_all {T : Tb} {sc : Scope} {N : List Str} {env : Env} : ∀ {es : List (Nat × IE)} {xs : List Keyword}, okKs T es sc N xs = true → ∀ pos,
    (backToKw pos (keywordEach xs env)).all (·.1.isSome) = true ∧ (backToKw pos (keywordEach xs env)).filterMap (·.1) = es.map (fun p => T.nm p.1) ∧ (backToKw pos (keywordEach xs env)).any (·.1.isNone) = false
  | [], [], _, _ => ⟨rfl, rfl, rfl⟩
  | _ :: _, [], h, _ => ff h
  | [], _ :: _, h, _ => ff h
  | (k, e) :: es, ⟨none, x, kp⟩ :: xs, h, pos => ff h
  | (k, e) :: es, ⟨some n, x, kp⟩ :: xs, h, pos => by
    have hn : n = T.nm k := of_decide_eq_true (a1 (a1 h))
    obtain ⟨q1, q2, q3⟩ := okKs_all (env := env) (a2 h) pos
    subst hn
    refine ⟨?_, ?_, ?_⟩
    · show (true && (backToKw pos (keywordEach xs env)).all (·.1.isSome)) = true
      rw [q1]; rfl
    · show T.nm k :: (backToKw pos (keywordEach xs env)).filterMap (·.1) = _
      rw [q2]; rfl
    · show (false || (backToKw pos (keywordEach xs env)).any (·.1.isNone)) = false
      rw [q3]; rfl
theorem any_or {α : Type} {l : List α} {f : α → Bool} {m : List α} {g : α → Bool} (h1 : l.any f = false) (h2 : m.any g = false) : (l.any f || m.any g) = false := by rw [h1, h2]; rfl
section
variable {G : Gd} {T : Tb} {P : Prog} {hot : Bool} {k : Nat} {pn : Pn} {W : WX} {X : Cx} {x : Str} {p pos : Pos}
theorem take_pre {α : Type} {a b c : List α} {n : Nat} (h : a <+: b) (hb : b <+: c) (hn : b.length = n) : a <+: c.take n := by
  obtain ⟨t, rfl⟩ := hb
  rw [List.take_append_of_le_length (by omega), List.take_of_length_le (by omega)]
  exact h
/-- a def's answer, frozen -/
theorem fin_frz {own : Bool} {φ : List Addr} {L : LH} {H : Hp} {Wt : WT} {Q : VK} {r : R V2} (hR : HR G φ L H) (h : Fin G (RelV2 G pn) Wt φ L H Q (r.bind fun x L3 => frzd own L.length x L3)) : Fin G (RelV2 G pn) Wt φ L H Q r := by
  cases r with
  | exc C fs L1 => exact h
  | stuck => exact h
  | ok x L3 =>
    simp only [R.bind_ok] at h
    cases own with
    | true => exact h
    | false =>
      intro φ' v H' h1 e1 r1
      cases x with
      | val d => exact h φ' v H' h1 e1 r1
      | exn C fs => exact h φ' v H' h1 e1 r1
      | ref n =>
        simp only [frzd] at h
        by_cases hn : n = L.length
        · rw [if_pos hn] at h
          obtain ⟨a, rfl, ha⟩ := r1
          have go : ∀ o, L3[n]? = some o → o ≠ .dead → HR G (φ'.take n) (L3.take n) H' ∧ Ext G φ L H (φ'.take n) (L3.take n) H' ∧ ¬ Own G (φ'.take n) (L3.take n) a ∧ Stp (Own G φ' L3) H' (Own G (φ'.take n) (L3.take n)) H' := fun o ho hd => by
            obtain ⟨t1, t2⟩ := h1.trunc n
            refine ⟨t1, ⟨e1.stp.trans t2, take_pre (List.prefix_refl _) e1.pre (by rw [hR.len]; exact hn.symm), e1.held⟩, fun z => ?_, t2⟩
            rcases z with ⟨i, u, z1, z2, z3⟩ | z
            · have hi : i < n := by
                have := (List.getElem?_eq_some_iff.mp z1).1
                rw [List.length_take] at this
                omega
              have z1' : L3[i]? = some u := by rw [List.getElem?_take_of_lt hi] at z1; exact z1
              have z3' : φ'[i]? = some a := by rw [List.getElem?_take_of_lt hi] at z3; exact z3
              have := h1.inj i n u o a z1' z2 ho hd z3' ha
              omega
            · exact (h1.res a z).2 ⟨n, o, ho, hd, ha⟩
          cases hl : L3[n]? with
          | none => rw [hl] at h; exact h.elim
          | some o =>
            rw [hl] at h
            cases o with
            | dead => exact h.elim
            | lst xs =>
              obtain ⟨g1, g2, g3, g4⟩ := go _ hl (by intro z; cases z)
              obtain ⟨vs, q1, q2⟩ := h1.at_ n _ a hl ha
              exact h _ _ H' g1 g2 ⟨a, vs, rfl, ⟨.inl q1, g3⟩, RDs.go g4 xs vs q2⟩
            | dct kvs =>
              obtain ⟨g1, g2, g3, g4⟩ := go _ hl (by intro z; cases z)
              obtain ⟨ks, q1, q2⟩ := h1.at_ n _ a hl ha
              exact h _ _ H' g1 g2 ⟨a, ks, rfl, ⟨q1, g3⟩, RDk.go g4 kvs ks q2⟩
            | ins C fs =>
              obtain ⟨g1, g2, g3, g4⟩ := go _ hl (by intro z; cases z)
              obtain ⟨dx, gs, q1, q2⟩ := h1.at_ n _ a hl ha
              exact h _ _ H' g1 g2 ⟨a, dx, gs, rfl, ⟨q1, g3⟩, RDf.go g4 fs gs q2⟩
        · rw [if_neg hn] at h
          exact h φ' v H' h1 e1 r1
theorem RVs.go {φ φ' : List Addr} {L L' : LH} {H H' : Hp} (e : Ext G φ L H φ' L' H') : ∀ {xs : List V2} {vs : List V}, RVs G pn φ (Own G φ L) H xs vs → RVs G pn φ' (Own G φ' L') H' xs vs
  | [], _, h => h
  | x :: xs, _, ⟨v, r, e1, h1, h2⟩ => ⟨v, r, e1, RV.go e h1, RVs.go e h2⟩
/-- the callee runs -/
theorem run_call (A : Am G T P hot k pn W X) {f : Nat} {own : Bool} (hf : f ∈ T.fns) {fA : Addr} (hm : X.mg (T.nm f) = some (.ref fA)) {pins : List (Addr × Obj)} {σ : L2.St} {φ : List Addr} {L : LH} {H : Hp} {s : Shared} {Q : VK} {us ws : List Value} {vs ks : List V} {xs : List V2} {ys : List (Nat × V2)}
    (I : Inv X pins σ H s) (hR : HR G φ L H) (r1 : RVs G pn φ (Own G φ L) H xs vs) (r2 : RVs G pn φ (Own G φ L) H (ys.map (·.2)) ks) (v1 : Vals vs us) (v2 : Vals ks ws)
    (hF : Fin G (RelV2 G pn) (WEx G W σ) φ L H Q (match (cl P hot k).bind f xs ys with
      | some zs => ((cl P hot k).call f zs L).bind fun r L3 => frzd own L.length r L3
      | none => .stuck)) : wpAny (model X.prog X.w) X.A (PySem.call (.ref fA) us ((ys.map fun p => T.nm p.1).zip ws)) (EP X pins σ Q) X.xe s := by
  obtain ⟨fd, ps, hb, F⟩ := A.fn f hf fA hm
  cases hz : (cl P hot k).bind f xs ys with
  | none => rw [hz] at hF; exact hF.elim
  | some zs =>
    rw [hz] at hF
    have hKin : G.K.In s.heap := by rw [← A.hK]; exact I.kIn
    obtain ⟨us', vs', b, w1, w2, hl⟩ := hb s xs ys zs us ws vs ks pn φ _ H G.B hKin hz r1 r2 v1 v2
    rw [show G.nm = T.nm from A.ft.nm] at b
    have e0 := I.env0
    rw [A.hK] at e0
    refine wpAny_call (codeAny_mono (F.run G.B pn X.A X.stack s H ⟨us, _⟩ us' vs' zs φ L Q (fun cls d H' => W cls d σ H') A.room (fun h => ⟨I.ok.hd (A.calm h), A.pn0 h⟩) A.pnH (fun q hq => ?_) e0 b w1 hl hR w2 ?_) fun r s' hq => ?_)
    · have P1 := I.pin q (List.mem_append_left _ (A.pns q hq))
      exact ⟨P1.1, P1.2.1, fun hm => (List.mem_cons.mp (I.stkSub q.1 hm)).elim P1.2.2.1 P1.2.2.2.1, P1.2.2.2.2⟩
    · exact fin_frz hR hF
    · cases r with
      | error e => exact A.tk _ _ (XE.of_call I (fun _ _ _ h => h) hq)
      | ok fl =>
        cases fl with
        | ret u => exact I.after hq
        | next => exact False.elim hq
        | brk => exact False.elim hq
        | cont => exact False.elim hq
theorem evk_names {c : Cl} : ∀ {es : List (Nat × IE)} {sl : SL} {L L' : LH} {ys : List (Nat × V2)}, evk c es sl L = .ok ys L' → ys.map (·.1) = es.map (·.1)
  | [], sl, L, L', ys, h => by
    simp only [evk] at h
    cases h
    rfl
  | (n, e) :: es, sl, L, L', ys, h => by
    simp only [evk] at h
    cases h1 : ev c e sl L with
    | stuck => rw [h1] at h; cases h
    | exc C fs L1 => rw [h1] at h; cases h
    | ok y L1 =>
      rw [h1] at h
      simp only [R.bind_ok] at h
      cases h2 : evk c es sl L1 with
      | stuck => rw [h2] at h; cases h
      | exc C fs L1 => rw [h2] at h; cases h
      | ok zs L2 =>
        rw [h2] at h
        simp only [R.bind_ok] at h
        cases h
        simp [evk_names h2]
theorem evk_bind {c : Cl} {α : Type} (es : List (Nat × IE)) (sl : SL) (L : LH) (g : List (Nat × V2) → LH → R α) : (evk c es sl L).bind g = (evk c es sl L).bind fun ys L2 => if ys.map (·.1) = es.map (·.1) then g ys L2 else .stuck := by
  cases h : evk c es sl L with
  | stuck => rfl
  | exc C fs L1 => rfl
  | ok ys L2 => simp only [R.bind_ok, if_pos (evk_names h)]
theorem snd_call (A : Am G T P hot k pn W X) {f : Nat} {own : Bool} {es : List IE} {ks : List (Nat × IE)} {args : List Expr} {kws : List Keyword} (hx : x = T.nm f) (hf : f ∈ T.fns) (hl : X.env.scope.names.lookup x = some .globalImplicit) (hd : dbgB x = false)
    (ok1 : okEs T es X.env.scope X.N args = true) (ok2 : okKs T ks X.env.scope X.N kws = true) (ha : PA X args (rdA G pn W (evs (cl P hot k) es))) (hk : PK X kws (rdK G pn W (evk (cl P hot k) ks))) : PE X (.Call (.Name x p) args kws pos) (rdE G pn W (ev (cl P hot k) (.call own f es ks))) := by
  subst hx
  obtain ⟨fA, hm, hkp⟩ := A.ft.fns f hf
  rw [← A.hK] at hkp
  refine ⟨fun pins s σ H Q I h => ?_⟩
  obtain ⟨φ, sl, L, hR, hS, hF⟩ := h
  simp only [ev] at hF
  obtain ⟨k1, k2, k3⟩ := okKs_all (env := X.env) ok2 pos
  refine wpAny_Call_Name_kw (ld_glob I hl hm ?_ hd)
  cases args with
  | nil =>
    cases es with
    | cons _ _ => exact ff ok1
    | nil =>
      simp only [evs, R.bind_ok] at hF
      rw [evk_bind] at hF
      refine PySem.W.callWith_KW0 (h₀ := X.base) I.ok.mod.kin hkp k1 (thn (hk.run pos pins s σ H _ I (bindK hR hS hF)) fun ws s2 ⟨zs, H2, I2, rz, φ2, L2, ys, hR2, e2, r2, hS2, hF2⟩ => ⟨I2.kIn, ?_⟩) (by rw [k3]; rfl)
      rw [k2]
      by_cases e3 : ys.map (·.1) = ks.map (·.1)
      · rw [if_pos e3] at hF2
        have e4 : (ks.map fun p => T.nm p.1) = ys.map fun p => T.nm p.1 := by
          have := congrArg (List.map T.nm) e3
          rw [List.map_map, List.map_map] at this
          exact this.symm
        rw [e4]
        exact run_call A (us := []) (vs := []) (xs := []) hf hm I2 hR2 rfl r2 .nil rz hF2
      · rw [if_neg e3] at hF2; exact hF2.elim
  | cons e r =>
    have hstar : notStar e = true := by
      cases es with
      | nil => exact ff ok1
      | cons _ _ => exact a2 (a1 ok1)
    refine PySem.W.callWith_KW (h₀ := X.base) I.ok.mod.kin hkp k1 (thn (ha.run pos pins s σ H _ I (bindA hR hS hF)) fun us s1 ⟨vs, H1, I1, r, φ1, L1, xs, hR1, e1, r1, hS1, hF1⟩ => ?_) (by rw [okEs_star (env := X.env) ok1 pos, k3]; rfl) (star_of hstar)
    rw [evk_bind] at hF1
    refine thn (hk.run pos pins s1 σ H1 _ I1 (bindK hR1 hS1 hF1)) fun ws s2 ⟨zs, H2, I2, rz, φ2, L2, ys, hR2, e2, r2, hS2, hF2⟩ => ⟨I2.kIn, ?_⟩
    rw [k2]
    by_cases e3 : ys.map (·.1) = ks.map (·.1)
    · rw [if_pos e3] at hF2
      have e4 : (ks.map fun p => T.nm p.1) = ys.map fun p => T.nm p.1 := by
        have := congrArg (List.map T.nm) e3
        rw [List.map_map, List.map_map] at this
        exact this.symm
      rw [e4]
      exact run_call A hf hm I2 hR2 (RVs.go e2 r1) r2 r rz hF2
    · rw [if_neg e3] at hF2; exact hF2.elim
end
end PI

set_option maxRecDepth 100000
set_option maxHeartbeats 1000000
namespace PI
open PySem PySem.Spec PyProof.Rows L2
section
variable {G : Gd} {pn : Pn} {W : WX} {X : Cx} {c : Cl} {x : Str} {p pos : Pos}
/-- f(..), by the arguments' values -/
theorem argsN {f : List V2 → LH → R V2} {es : List IE} {σ : L2.St} {H : Hp} {Q : VK} (hq : rdE G pn W (fun sl L => (evs c es sl L).bind fun xs L1 => f xs L1) σ H Q) : tCB (rdN G pn f) (rdA G pn W (evs c es)) σ H Q := by
  obtain ⟨φ, sl, L, hR, hS, hF⟩ := hq
  exact (bindA hR hS hF).mono fun vs H1 ⟨φ1, L1, xs, hR1, e1, r1, hS1, hF1⟩ => ⟨_, φ1, L1, xs, hR1, r1, hF1⟩
theorem snd_bi (hK : X.K = G.K) (hcalm : c.hot = false → X.calm = true) {own : Bool} {b : BI} {es : List IE} {args : List Expr} (hon : b.on = true) (hx : x = Str.ofString b.name) (hm : X.mg x = none) (hl : X.env.scope.names.lookup x = some .globalImplicit) (hd : dbgB x = false) (hne : args ≠ [])
    (hst : ∀ pos, (backTo pos (starEach args X.env)).any (·.1) = false) (ha : PA X args (rdA G pn W (evs c es))) : PE X (.Call (.Name x p) args [] pos) (rdE G pn W (ev c (.bi own b es))) := by
  cases args with
  | nil => exact absurd rfl hne
  | cons e r =>
    have h0 := hst pos
    have hs : starEach (e :: r) X.env = (false, eval e X.env) :: starEach r X.env := by
      cases e <;> first | rfl | exact absurd h0 (by show (true || _) ≠ false; simp)
    rw [hs] at h0
    have hpl : (backTo pos (starEach r X.env)).any (·.1) = false := h0
    have go : ∀ {f : List V2 → LH → R V2} σ H Q, (c.hot && b.calm) = false → f = biV own b → rdE G pn W (ev c (.bi own b es)) σ H Q → rdE G pn W (fun sl L => (evs c es sl L).bind fun xs L1 => f xs L1) σ H Q := fun {f} σ H Q hc hf ⟨φ, sl, L, hR, hS, hF⟩ => by
      subst hf
      simp only [ev, hc, Bool.false_eq_true, if_false] at hF
      exact ⟨φ, sl, L, hR, hS, hF⟩
    subst hx
    cases b <;> first | exact ff hon | skip
    · exact (pe_callB (ok_len (pn := pn) hK own) hl hm boot_len ha (by decide) hd hs hpl).imp fun σ H Q q => argsN (go σ H Q (by simp [BI.calm]) rfl q)
    · exact (pe_callTy (ok_intC (G := G) (pn := pn) own) hl hm PyProof.Rows.boot_int ha (by decide) hd hs hpl).imp fun σ H Q q => argsN (go σ H Q (by simp [BI.calm]) rfl q)
    · cases hh : c.hot with
      | true => exact ⟨fun pins s σ H Q I ⟨φ, sl, L, hR, hS, hF⟩ => by simp [ev, hh, BI.calm, Fin] at hF⟩
      | false => exact (pe_callB (ok_all (G := G) (pn := pn) (hcalm hh) own) hl hm PyProof.Rows.boot_all ha (by decide) hd hs hpl).imp fun σ H Q q => argsN (go σ H Q (by simp [hh]) rfl q)
    · cases hh : c.hot with
      | true => exact ⟨fun pins s σ H Q I ⟨φ, sl, L, hR, hS, hF⟩ => by simp [ev, hh, BI.calm, Fin] at hF⟩
      | false => exact (pe_callB (ok_any (G := G) (pn := pn) (hcalm hh) own) hl hm PyProof.Rows.boot_any ha (by decide) hd hs hpl).imp fun σ H Q q => argsN (go σ H Q (by simp [hh]) rfl q)
    · exact (pe_callTy (ok_list (pn := pn) hK own) hl hm PyProof.Rows.boot_list ha (by decide) hd hs hpl).imp fun σ H Q q => argsN (go σ H Q (by simp [BI.calm]) rfl q)
    · exact (pe_callTy (ok_tuple (pn := pn) hK own) hl hm PyProof.Rows.boot_tuple ha (by decide) hd hs hpl).imp fun σ H Q q => argsN (go σ H Q (by simp [BI.calm]) rfl q)
theorem base_of {o : Expr} {name : Str} {env : Env} (h : notCall0 o = true) (t : Sem Value) : attributeBase o name env t = t := by
  cases o <;> first | rfl | skip
  rename_i f args kws q
  cases f <;> first | rfl | skip
  cases args <;> first | rfl | skip
  cases kws <;> first | rfl | exact ff h
theorem ty_of (hK : X.K = G.K) {m : MI} {x : V2} {v : V} {φ : List Addr} {L : LH} {H : Hp} (hR : HR G φ L H) (r : RV G pn φ (Own G φ L) H x v) (h : methTy m x L = true) : tyV X.K m.ty v H := by
  unfold methTy at h
  split at h
  · rename_i e
    rw [e]
    cases q : x.lst? L with
    | none => rw [q] at h; cases h
    | some xs =>
      obtain ⟨a, vs, rfl, t, _⟩ := RV.lst hR r q
      exact .inl ⟨rfl, vs, .inl t⟩
  · rename_i e
    rw [e]
    split at h
    · obtain ⟨rfl, _⟩ := (show _ = V.str _ ∧ _ from r)
      exact rfl
    · cases h
  · cases h
theorem few_of {args : List Expr} {env : Env} {pos : Pos} (hn : args.length < 20) (hst : ∀ pos, (backTo pos (starEach args env)).any (·.1) = false) :
    ((backTo pos (starEach args env)).all (fun x => !x.1) && (backToKw pos (keywordEach [] env)).all (fun x => x.1.isSome)
      && decide (args.length + ([] : List Keyword).length + (if ([] : List Keyword).isEmpty then 0 else 1) < 30)) = true := by
  have h := hst pos
  rw [List.any_eq_false] at h
  simp only [Bool.and_eq_true, List.all_eq_true, decide_eq_true_eq]
  refine ⟨⟨fun y hy => by simpa using h y hy, fun y hy => by cases hy⟩, by simp; omega⟩
/-- a method, by the values -/
theorem meth_go (hK : X.K = G.K) {m : MI} {id : String} {own : Bool} {o : Expr} {name : Str} {args : List Expr} {e : IE} {es : List IE} {apos cpos : Pos} (pa : PlainAttrs m.ty) (slot : Slot m.ty name id) (hty : typeOf (.builtin id) = pure (.type "method_descriptor"))
    (hm : MtR X id (rdM G pn (methV own m))) (hb : notCall0 o = true) (hline : (apos.endLine == cpos.line) = true) (hn : args.length < 20) (hst : ∀ pos, (backTo pos (starEach args X.env)).any (·.1) = false) (hlen : es.length = args.length)
    (ho : PE X o (rdE G pn W (ev c e))) (ha : PA X args (rdA G pn W (evs c es))) : PE X (.Call (.Attribute o name apos) args [] cpos) (rdE G pn W (ev c (.meth own m e es))) := by
  cases args with
  | nil =>
    cases es with
    | cons _ _ => cases hlen
    | nil =>
      refine (pe_bm0 pa slot hty hm ho (base_of hb _) hline).imp fun σ H Q ⟨φ, sl, L, hR, hS, hF⟩ => ?_
      simp only [ev, evs, R.bind_ok] at hF
      refine (bindE hR hS hF).mono fun v H1 ⟨φ1, L1, x, hR1, e1, r1, hS1, hF1⟩ => ?_
      by_cases ht : methTy m x L1 = true
      · rw [if_pos ht] at hF1
        exact ⟨ty_of hK hR1 r1 ht, _, φ1, L1, x, [], hR1, r1, rfl, hF1⟩
      · rw [if_neg ht] at hF1; exact hF1.elim
  | cons a r =>
    have h0 := hst cpos
    have hs : starEach (a :: r) X.env = (false, eval a X.env) :: starEach r X.env := by
      cases a <;> first | rfl | exact absurd h0 (by show (true || _) ≠ false; simp)
    have hpl : (backTo cpos (starEach r X.env)).any (·.1) = false := by rw [hs] at h0; exact h0
    refine (pe_bm pa slot hty hm ho ha (base_of hb _) (few_of hn hst) hline hs hpl).imp fun σ H Q ⟨φ, sl, L, hR, hS, hF⟩ => ?_
    simp only [ev] at hF
    refine (bindE hR hS hF).mono fun v H1 ⟨φ1, L1, x, hR1, e1, r1, hS1, hF1⟩ => ?_
    by_cases ht : methTy m x L1 = true
    · rw [if_pos ht] at hF1
      refine ⟨ty_of hK hR1 r1 ht, (bindA hR1 hS1 hF1).mono fun vs H2 ⟨φ2, L2, xs, hR2, e2, r2, hS2, hF2⟩ => ?_⟩
      exact ⟨_, φ2, L2, x, xs, hR2, RV.go e2 r1, r2, hF2⟩
    · rw [if_neg ht] at hF1; exact hF1.elim
theorem snd_meth (hK : X.K = G.K) {m : MI} {own : Bool} {o : Expr} {name : Str} {args : List Expr} {e : IE} {es : List IE} {apos cpos : Pos} (hon : m.on = true) (hname : name = Str.ofString m.name) (hb : notCall0 o = true) (hline : (apos.endLine == cpos.line) = true) (hn : args.length < 20)
    (hst : ∀ pos, (backTo pos (starEach args X.env)).any (·.1) = false) (hlen : es.length = args.length) (ho : PE X o (rdE G pn W (ev c e))) (ha : PA X args (rdA G pn W (evs c es))) : PE X (.Call (.Attribute o name apos) args [] cpos) (rdE G pn W (ev c (.meth own m e es))) := by
  subst hname
  cases m <;> first | exact ff hon | skip
  · exact meth_go (m := .lAppend) hK F.plainAttrs_list F.slot_list_append rfl (ok_append own) hb hline hn hst hlen ho ha
  · exact meth_go (m := .sUpper) hK F.plainAttrs_str F.slot_str_upper rfl (ok_upper own) hb hline hn hst hlen ho ha
  · exact meth_go (m := .sCount) hK F.plainAttrs_str F.slot_str_count rfl (ok_scount own) hb hline hn hst hlen ho ha
end
end PI

set_option maxRecDepth 100000
set_option maxHeartbeats 1000000
namespace PI
open PySem PySem.Spec PyProof.Rows L2
def TV.val (cn : Nat → Addr) : TV → Value
  | .ty n => .type n
  | .own C => .ref (cn C)
def IC.val (cn : Nat → Addr) : IC → Value
  | .ty n => .type n
  | .own C => .ref (cn C)
def IC.v (cn : Nat → Addr) : IC → V
  | .ty n => .ty n
  | .own C => .ref (cn C)
theorem IC.clsv (cn : Nat → Addr) : ∀ c : IC, ClsV (c.v cn) (c.val cn)
  | .ty n => .ty n
  | .own C => .own (cn C)
theorem kitOk_eq {K : PySem.W.Frag} {cn : Nat → Addr} {t : TV} {c : IC} {b : Bool} (h : KitOk K cn t c b) : PySem.W.kitOne K (t.val cn) (c.val cn) = some b := by
  cases t <;> cases c <;> exact h
section
variable {G : Gd} {T : Tb} {P : Prog} {hot : Bool} {k : Nat} {pn : Pn} {W : WX} {X : Cx} {x : Str} {p pos : Pos}
theorem kits_any {t : TV} : ∀ {cs : List IC} {b : Bool}, (∀ c b, P.kit t c = some b → KitOk G.K G.cn t c b) → kits P.kit t cs = some b → PySem.W.kitAny G.K (t.val G.cn) (cs.map (IC.val G.cn)) = some b
  | [], b, _, h => by cases h; rfl
  | c :: r, b, hk, h => by
    simp only [kits] at h
    cases e : P.kit t c with
    | none => rw [e] at h; cases h
    | some q =>
      rw [e] at h
      have z := kitOk_eq (hk c q e)
      cases q with
      | true =>
        cases h
        exact kitAny_cons z (fun y => by cases y) fun _ => rfl
      | false => exact kitAny_cons z (fun _ => kits_any hk h) fun y => by cases y
theorem rdT_tup {K : PySem.W.Frag} {O : Addr → Prop} {H : Hp} {a : Addr} {vs : List V} (h : TupAt K O H a vs) : TyX K H (.ref a) (.type "tuple") := by
  rcases h with ⟨h | ⟨o, h⟩, _⟩ | h
  · exact .base (.tup h)
  · exact .fTuple h
  · rcases h (fun _ => none) with (h | ⟨o, h⟩) | ⟨o, its, n, hk, hc, _⟩
    · cases h
    · cases h
    · exact .kTuple hk hc
theorem tyx_of {φ : List Addr} {L : LH} {H : Hp} (hR : HR G φ L H) {x : V2} {v : V} {t : TV} (r : RV G pn φ (Own G φ L) H x v) (e : tyOf L x = some t) (own : ∀ C, t = .own C → OwnC G.K (G.cn C)) : TyX G.K H v (t.val G.cn) := by
  cases x with
  | val d =>
    cases d with
    | non => cases e; cases (show v = V.non from r); exact .base .non
    | bl b => cases e; cases (show v = V.bl b from r); exact .base (.bl b)
    | int i => cases e; cases (show v = V.int i from r); exact .base (.int i)
    | str s => cases e; obtain ⟨rfl, _⟩ := (show _ = V.str _ ∧ _ from r); exact .base (.str _)
    | tup xs => cases e; obtain ⟨a, vs, rfl, q, _⟩ := r; exact rdT_tup q
    | lst xs =>
      cases e
      obtain ⟨a, vs, rfl, ⟨q | ⟨o, q⟩, _⟩, _⟩ := r
      · exact .base (.lst q)
      · exact .base (.frz q)
    | dct kvs => cases e; obtain ⟨a, ks, rfl, ⟨q, _⟩, _⟩ := r; exact .base (.dK q)
    | ins C fs =>
      cases e
      obtain ⟨a, dx, gs, rfl, ⟨q, _⟩, _⟩ := r
      have w := own C rfl
      exact .base (.ins q w.cl w.ha w.hn w.htk w.hm)
  | ref n =>
    obtain ⟨a, rfl, ha⟩ := r
    simp only [tyOf] at e
    cases hn : L[n]? with
    | none => rw [hn] at e; cases e
    | some o =>
      rw [hn] at e
      have q := hR.at_ n o a hn ha
      cases o with
      | dead => cases e
      | lst xs => cases e; obtain ⟨vs, q, _⟩ := q; exact .base (.lst q)
      | dct kvs => cases e; obtain ⟨ks, q, _⟩ := q; exact .base (.dK q)
      | ins C fs =>
        cases e
        obtain ⟨dx, gs, q, _⟩ := q
        have w := own C rfl
        exact .base (.ins q w.cl w.ha w.hn w.htk w.hm)
  | exn C fs => cases e
/-- a class's name -/
theorem ic_pe (ft : Ft G T P X.mg) {c : IC} {e : Expr} (h : icB T X.env.scope c e = true) : PE X e (tC (c.v G.cn)) ∧ notStar e = true := by
  cases c with
  | ty n =>
    cases e <;> first | exact ff h | skip
    rename_i y q
    have e1 : y = Str.ofString n := of_decide_eq_true (a1 (a1 (a1 (a1 (a1 h)))))
    have e2 : y ∈ T.free := by simpa using a2 (a1 (a1 (a1 (a1 h))))
    have e3 := glB_ok (a2 (a1 (a1 (a1 h))))
    have e4 := nt (a2 (a1 (a1 h)))
    have e5 : y ≠ "__name__" := of_decide_eq_true (a2 (a1 h))
    have e6 := a2 h
    refine ⟨?_, rfl⟩
    have hb : bootBuiltins y = some (.type n) := by
      subst e1
      simp only [List.contains_cons, List.contains_nil, Bool.or_false, Bool.or_eq_true, beq_iff_eq] at e6
      rcases e6 with rfl | rfl | rfl | rfl | rfl | rfl <;> decide +kernel
    exact pe_bltn (v := .ty n) e3 (ft.free y e2) hb rfl e5 e4
  | own C =>
    cases e <;> first | exact ff h | skip
    rename_i y q
    have e1 : y = T.nm C := of_decide_eq_true (a1 (a1 (a1 h)))
    have e2 : C ∈ T.cls := by simpa using a2 (a1 (a1 h))
    subst e1
    exact ⟨pe_glob (v := .ref (G.cn C)) (glB_ok (a2 (a1 h))) (ft.cls C e2) rfl (nt (a2 h)), rfl⟩
/-- several -/
def tCs (vs : List V) : TA := fun _ H Q => Q vs H
theorem ics_pa (ft : Ft G T P X.mg) : ∀ {cs : List IC} {es : List Expr}, icsB T X.env.scope cs es = true → PA X es (tCs (cs.map (IC.v G.cn)))
  | [], [], _ => pa_nil
  | c :: cs, e :: es, h => by
    obtain ⟨h1, h2⟩ := ic_pe ft (a1 h)
    exact (pa_cons h1 (ics_pa ft (a2 h)) (star_of h2)).imp fun σ H Q q => q
  | [], _ :: _, h => ff h
  | _ :: _, [], h => ff h
theorem bls_isi {c : Cl} {e : IE} {cs : List IC} : Bls (ev c (.isi e cs)) := by
  intro sl L x L' h
  simp only [ev] at h
  cases h1 : ev c e sl L with
  | stuck => rw [h1] at h; cases h
  | exc C fs L1 => rw [h1] at h; cases h
  | ok y L1 =>
    rw [h1] at h
    simp only [R.bind_ok] at h
    split at h
    · cases h; exact ⟨_, rfl⟩
    · cases h
theorem ics_paired (cn : Nat → Addr) : ∀ cs : List IC, Paired ClsV (cs.map (IC.v cn)) (cs.map (IC.val cn))
  | [] => .nil
  | c :: cs => .cons (c.clsv cn) (ics_paired cn cs)
theorem snd_isi {c : Cl} (hK : X.K = G.K) (ft : Ft G T P X.mg) (hk : c.kit = P.kit) {z v : Expr} {e : IE} {cs : List IC} (hx : x = ("isinstance" : Str)) (hf : x ∈ T.free) (hl : X.env.scope.names.lookup x = some .globalImplicit) (hz : notStar z = true)
    (ho : (∃ d, cs = [d] ∧ icB T X.env.scope d v = true) ∨ (∃ vs j r, v = .Tuple vs j r ∧ icsB T X.env.scope cs vs = true)) (hez : PE X z (rdE G pn W (ev c e))) : PE X (.Call (.Name x p) [z, v] [] pos) (rdE G pn W (ev c (.isi e cs))) := by
  have hm := ft.free x hf
  subst hx
  rcases ho with ⟨d, rfl, hd⟩ | ⟨vs, j, r, rfl, hd⟩
  · obtain ⟨h1, h2⟩ := ic_pe ft hd
    have ha : PA X [z, v] (tCons (rdE G pn W (ev c e)) (tCons (tC (d.v G.cn)) tNil)) := pa_cons hez (pa_cons h1 pa_nil (star_of h2)) (star_of hz)
    have hpl : (backTo pos (starEach [v] X.env)).any (·.1) = false := by rw [star_of h2]; rfl
    refine (pe_callB call_isi hl hm PyProof.Rows.boot_isinstance ha (by decide) (by decide) (star_of hz) hpl).imp fun σ H Q ⟨φ, sl, L, hR, hS, hF⟩ => ?_
    simp only [ev] at hF
    refine (bindE hR hS hF).mono fun u H1 ⟨φ1, L1, y, hR1, e1, r1, hS1, hF1⟩ => ?_
    show rIsi X.K [u, d.v G.cn] H1 Q
    cases q : isIC c.kit L1 y [d] with
    | none => rw [q] at hF1; exact hF1.elim
    | some b =>
      rw [q] at hF1
      unfold isIC at q
      rw [if_neg (by simp)] at q
      cases ty : tyOf L1 y with
      | none => rw [ty] at q; cases q
      | some t =>
        rw [ty, hk] at q
        simp only [Option.bind_some, kits] at q
        rw [hK]
        have hq : P.kit t d = some b := by
          cases e : P.kit t d with
          | none => rw [e] at q; cases q
          | some b' => rw [e] at q; cases b' <;> exact q
        exact ⟨u, d.v G.cn, t.val G.cn, d.val G.cn, b, rfl, d.clsv _, tyx_of hR1 r1 ty fun C hC => ft.own C d b (by rw [← hC]; exact hq), kitOk_eq (ft.kit t d b hq), fin_val hR1 hF1 rfl⟩
  · have ha : PA X [z, .Tuple vs j r] (tCons (rdE G pn W (ev c e)) (tCons (tTup (tCs (cs.map (IC.v G.cn)))) tNil)) := pa_cons hez (pa_cons (pe_tup (ics_pa ft hd)) pa_nil rfl) (star_of hz)
    refine (pe_callB call_isiT hl hm PyProof.Rows.boot_isinstance ha (by decide) (by decide) (star_of hz) rfl).imp fun σ H Q ⟨φ, sl, L, hR, hS, hF⟩ => ?_
    simp only [ev] at hF
    refine (bindE hR hS hF).mono fun u H1 ⟨φ1, L1, y, hR1, e1, r1, hS1, hF1⟩ => ?_
    cases q : isIC c.kit L1 y cs with
    | none => rw [q] at hF1; exact hF1.elim
    | some b =>
      rw [q] at hF1
      unfold isIC at q
      by_cases hc : (cs.isEmpty || decide (100 < cs.length)) = true
      · rw [if_pos hc] at q; cases q
      · rw [if_neg hc] at q
        simp only [Bool.or_eq_true, decide_eq_true_eq, not_or] at hc
        cases ty : tyOf L1 y with
        | none => rw [ty] at q; cases q
        | some t =>
          rw [ty, hk] at q
          simp only [Option.bind_some] at q
          refine ⟨by rw [List.length_map, ← lim_eq]; show _ ≤ 16777216; omega, fun tp htp => ?_⟩
          obtain ⟨h3, e3⟩ := hR1.lay htp (.tup (cs.map (IC.v G.cn)))
          have own : ∀ C, t = .own C → OwnC G.K (G.cn C) := fun C hC => by
            cases cs with
            | nil => exact absurd rfl hc.1
            | cons d ds =>
              simp only [kits] at q
              cases e : P.kit t d with
              | none => rw [e] at q; cases q
              | some b' => exact ft.own C d b' (by rw [← hC]; exact e)
          rw [hK]
          exact ⟨u, tp, _, t.val G.cn, _, b, rfl, upd_same, ics_paired _ _, tyx_of h3 (RV.go e3 r1) ty own, kits_any (fun c b h => ft.kit t c b h) q, fin_val h3 (Fin.ext e3 hF1) rfl⟩
end
end PI

set_option maxRecDepth 100000
set_option maxHeartbeats 1000000
namespace PI
open PySem PySem.Spec PyProof.Rows L2

/-- at each turn an item, then the stop -/
def IsIt (G : Gd) (φ0 : List Addr) (L0 : LH) (H0 : Hp) (src : Option Nat) (ds : List D) (J : It) : Prop :=
  ∀ (B : Addr → Prop) (φ : List Addr) (L : LH) (H : Hp), HR (G.at B) φ L H → Stp (Own G φ0 L0) H0 (Own (G.at B) φ L) H → φ0 <+: φ → srcOk src ds L →
    (∀ i d, ds[i]? = some d → J.go i H ∧ ∀ x H', J.yld i H x H' → HR (G.at B) φ L H' ∧ Ext (G.at B) φ L H φ L H' ∧ RD (G.at B) (Own (G.at B) φ L) H' d x) ∧ J.stop ds.length H
section
variable {G : Gd} {T : Tb} {pn : Pn} {W : WX} {X : Cx} {c : Cl} {tg e : Expr}
theorem pi_over {te : TE} (he : PE X e te) : L2.PI X tg e (fun σ H R => te σ H fun x H1 => (∃ a, x = .ref a ∧ (∃ xs, SqL X.K H1 a xs) ∧ R (Itl X.K a) H1) ∨ (∃ a, x = .ref a ∧ (∃ xs, SqT X.K H1 a xs) ∧ R (Itt X.K a) H1) ∨ (∃ z, x = .str z ∧ R (Its z) H1)) := by
  refine ⟨fun pins s σ H R I h => ?_⟩
  refine thn (he.run pins s σ H _ I h) fun v s1 ⟨x, H1, I1, r1, q1⟩ => ?_
  rcases q1 with ⟨a, e, ⟨xs, hq⟩, q⟩ | ⟨a, e, ⟨xs, hq⟩, q⟩ | ⟨z, e, q⟩
  · subst e
    cases r1
    obtain ⟨its, rv, p, hz⟩ := I1.list hq
    exact wpAny_pyIter_list p.isList (pi_one (tk := s1.toks) I1 _ (turn_list a _) ⟨_, Heap.get?_push_size _ rfl, rfl, rfl⟩ q)
  · subst e
    cases r1
    obtain ⟨its, rv, p, hz⟩ := I1.tuple hq
    exact wpAny_pyIter_tuple (show s1.heap.IsTuple a its.toArray from p) (pi_one (tk := s1.toks) I1 _ (turn_tuple a _) ⟨_, Heap.get?_push_size _ rfl, rfl, rfl⟩ q)
  · subst e
    obtain ⟨t, rfl⟩ := r1
    cases ha : z.cps.all (· < 128)
    · exact wpAny_pyIter_wide ha (pi_one (tk := s1.toks) I1 _ (turn_str _ z t "str_iterator" (.inr rfl)) ⟨_, Heap.get?_push_size _ rfl, rfl, rfl⟩ q)
    · exact wpAny_pyIter_ascii ha (pi_one (tk := s1.toks) I1 _ (turn_str _ z t "str_ascii_iterator" (.inl rfl)) ⟨_, Heap.get?_push_size _ rfl, rfl, rfl⟩ q)
/-- the reading of what a for walks -/
def rdI (G : Gd) (pn : Pn) (W : WX) (k : IK) (f : SL → LH → R (List V2)) : TI := fun σ H R => rdA G pn W f σ H fun vs H1 => ∃ (φ : List Addr) (L : LH) (xs : List V2) (ds : List D), HR G φ L H1 ∧ RVs G pn φ (Own G φ L) H1 xs vs ∧ itemsV k xs L = some ds ∧ ∀ J, IsIt G φ L H1 (srcOf k xs) ds J → R J H1
/-- a list of tracked items -/
theorem isIt_list {K : PySem.W.Frag} {a : Addr} {φ0 : List Addr} {L0 : LH} {H0 : Hp} {src : Option Nat} {ds : List D}
    (h : ∀ (B : Addr → Prop) (φ : List Addr) (L : LH) (H : Hp), HR (G.at B) φ L H → Stp (Own G φ0 L0) H0 (Own (G.at B) φ L) H → φ0 <+: φ → srcOk src ds L → ∃ vs, SqL K H a vs ∧ RDs (G.at B) (Own (G.at B) φ L) H ds vs) : IsIt G φ0 L0 H0 src ds (Itl K a) := fun B φ L H hR s p ho => by
  obtain ⟨vs, hq, r⟩ := h B φ L H hR s p ho
  refine ⟨fun i d hi => ?_, vs, hq, by rw [r.len]; exact Nat.le_refl _⟩
  obtain ⟨v, hv, rv⟩ := r.get hi
  refine ⟨⟨vs, v, hq, hv⟩, fun x H' y => ?_⟩
  obtain ⟨rfl, y⟩ := y
  have := y vs hq
  rw [hv] at this
  cases this
  exact ⟨hR, Ext.refl _ _ _ _, rv⟩
theorem isIt_tup {K : PySem.W.Frag} {a : Addr} {φ0 : List Addr} {L0 : LH} {H0 : Hp} {src : Option Nat} {ds : List D}
    (h : ∀ (B : Addr → Prop) (φ : List Addr) (L : LH) (H : Hp), HR (G.at B) φ L H → Stp (Own G φ0 L0) H0 (Own (G.at B) φ L) H → φ0 <+: φ → srcOk src ds L → ∃ vs, SqT K H a vs ∧ RDs (G.at B) (Own (G.at B) φ L) H ds vs) : IsIt G φ0 L0 H0 src ds (Itt K a) := fun B φ L H hR s p ho => by
  obtain ⟨vs, hq, r⟩ := h B φ L H hR s p ho
  refine ⟨fun i d hi => ?_, vs, hq, by rw [r.len]; exact Nat.le_refl _⟩
  obtain ⟨v, hv, rv⟩ := r.get hi
  refine ⟨⟨vs, v, hq, hv⟩, fun x H' y => ?_⟩
  obtain ⟨rfl, y⟩ := y
  have := y vs hq
  rw [hv] at this
  cases this
  exact ⟨hR, Ext.refl _ _ _ _, rv⟩
theorem isIt_str {a : List Nat} {φ0 : List Addr} {L0 : LH} {H0 : Hp} {src : Option Nat} (hc : ∀ c ∈ a, c < 0x110000) : IsIt G φ0 L0 H0 src (a.map fun c => .str [c]) (Its ⟨a.toArray⟩) := fun B φ L H hR s p ho => by
  refine ⟨fun i d hi => ?_, by show a.toArray.size ≤ (a.map _).length; simp⟩
  rw [List.getElem?_map] at hi
  cases h : a[i]? with
  | none => rw [h] at hi; cases hi
  | some k =>
    rw [h] at hi
    cases hi
    have hi' : i < a.length := (List.getElem?_eq_some_iff.mp h).1
    refine ⟨by show i < a.toArray.size; simpa using hi', fun x H' y => ?_⟩
    obtain ⟨rfl, k', hk, rfl⟩ := y
    have e : k' = k := by
      have : a[i]? = some k' := by simpa using hk
      rw [h] at this
      exact (Option.some.inj this).symm
    subst e
    exact ⟨hR, Ext.refl _ _ _ _, rfl, fun z hz => by
      simp at hz
      subst hz
      exact hc _ (List.mem_of_getElem? h), by show 1 ≤ 16777216; omega⟩
theorem isIt_range {a b : Int} {φ0 : List Addr} {L0 : LH} {H0 : Hp} {src : Option Nat} : IsIt G φ0 L0 H0 src (range2 a b) (Itr a (b - a).toNat) := fun B φ L H hR s p ho => by
  refine ⟨fun i d hi => ?_, by show (b - a).toNat ≤ (range2 a b).length; simp [range2]⟩
  unfold range2 at hi
  rw [List.getElem?_map] at hi
  cases h : (List.range (b - a).toNat)[i]? with
  | none => rw [h] at hi; cases hi
  | some k =>
    rw [h] at hi
    cases hi
    have h' := List.getElem?_eq_some_iff.mp h
    obtain ⟨h1, h2⟩ := h'
    rw [List.getElem_range] at h2
    subst h2
    rw [List.length_range] at h1
    refine ⟨h1, fun x H' y => ?_⟩
    obtain ⟨rfl, rfl⟩ := y
    exact ⟨hR, Ext.refl _ _ _ _, rfl⟩
theorem srcOf_at {φ0 φ : List Addr} {L : LH} {H : Hp} {B : Addr → Prop} {n : Nat} {a : Addr} {ds : List D} (hR : HR (G.at B) φ L H) (p : φ0 <+: φ) (ha : φ0[n]? = some a) (ho : srcOk (some n) ds L) : ∃ vs, SqL G.K H a vs ∧ RDs (G.at B) (Own (G.at B) φ L) H ds vs := by
  obtain ⟨vs, q1, q2⟩ := hR.at_ n _ a ho (pre_get p ha)
  exact ⟨vs, SqL.of q1, q2⟩
theorem pi_sndO (hK : X.K = G.K) {i : IE} (he : PE X e (rdE G pn W (ev c i))) : L2.PI X tg e (rdI G pn W .over (evs c [i])) := by
  refine ⟨fun pins s σ H R I h => (pi_over he).run pins s σ H R I ?_⟩
  obtain ⟨φ, sl, L, hR, hS, hF⟩ := h
  simp only [evs] at hF
  refine (bindE hR hS hF).mono fun v H1 ⟨φ1, L1, x, hR1, e1, r1, hS1, hF1⟩ => ?_
  simp only [PI.R.bind_ok] at hF1
  obtain ⟨φ2, L2, xs, ds, hR2, r2, hi, hJ⟩ := hF1 φ1 [v] H1 hR1 (Ext.refl _ _ _ _) ⟨v, [], rfl, r1, rfl⟩
  cases xs with
  | nil => cases hi
  | cons y ys =>
    cases ys with
    | cons _ _ => cases hi
    | nil =>
      obtain ⟨u, e, ry⟩ := RVs.one r2
      cases e
      have seqs : ∀ ds, y.seq? L2 = some ds → (∀ J, IsIt G φ2 L2 H1 (srcOf .over [y]) ds J → R J H1) → (∃ a, v = .ref a ∧ (∃ xs, SqL X.K H1 a xs) ∧ R (Itl X.K a) H1) ∨ (∃ a, v = .ref a ∧ (∃ xs, SqT X.K H1 a xs) ∧ R (Itt X.K a) H1) ∨ (∃ z, v = .str z ∧ R (Its z) H1) := fun ds hq hJ => by
        rw [hK]
        cases y with
        | val d =>
          cases d with
          | tup ys =>
            simp [V2.seq?] at hq
            subst hq
            obtain ⟨a, vs, rfl, t, rs⟩ := ry
            exact .inr (.inl ⟨a, rfl, ⟨vs, t.sq⟩, hJ _ (isIt_tup fun B φ L H _ s p _ => ⟨vs, (s.tup t).sq, RDs.re s _ _ rs⟩)⟩)
          | lst ys =>
            simp [V2.seq?] at hq
            subst hq
            obtain ⟨a, vs, rfl, t, rs⟩ := ry
            exact .inl ⟨a, rfl, ⟨vs, t.sq⟩, hJ _ (isIt_list fun B φ L H _ s p _ => ⟨vs, (s.lst t).sq, RDs.re s _ _ rs⟩)⟩
          | _ => simp [V2.seq?] at hq
        | ref n =>
          have hq' : (V2.ref n).lst? L2 = some ds := hq
          obtain ⟨a, vs, rfl, t, rs⟩ := RV.lst hR2 ry hq'
          obtain ⟨a', e, ha⟩ := ry
          cases e
          exact .inl ⟨a, rfl, ⟨vs, .inl t⟩, hJ _ (isIt_list fun B φ L H hR s p ho => srcOf_at hR p ha ho)⟩
        | exn C fs => simp [V2.seq?] at hq
      cases y with
      | val d =>
        cases d with
        | str a =>
          cases hi
          obtain ⟨rfl, hc, hl⟩ := (show _ = V.str _ ∧ _ from ry)
          exact .inr (.inr ⟨_, rfl, hJ _ (isIt_str hc)⟩)
        | _ => exact seqs ds hi hJ
      | ref n => exact seqs ds hi hJ
      | exn C fs => exact seqs ds hi hJ
theorem evs_len : ∀ {es : List IE} {sl : SL} {L L' : LH} {ys : List V2}, evs c es sl L = .ok ys L' → ys.length = es.length
  | [], sl, L, L', ys, h => by
    simp only [evs] at h
    cases h
    rfl
  | e :: es, sl, L, L', ys, h => by
    simp only [evs] at h
    cases h1 : ev c e sl L with
    | stuck => rw [h1] at h; cases h
    | exc C fs L1 => rw [h1] at h; cases h
    | ok y L1 =>
      rw [h1] at h
      simp only [PI.R.bind_ok] at h
      cases h2 : evs c es sl L1 with
      | stuck => rw [h2] at h; cases h
      | exc C fs L1 => rw [h2] at h; cases h
      | ok zs L2 =>
        rw [h2] at h
        simp only [PI.R.bind_ok] at h
        cases h
        simp [evs_len h2]
theorem RVs.len {φ : List Addr} {O : Addr → Prop} {H : Hp} : ∀ {xs : List V2} {vs : List V}, RVs G pn φ O H xs vs → vs.length = xs.length
  | [], _, h => by cases (show _ = [] from h); rfl
  | x :: xs, _, ⟨v, r, e, _, h2⟩ => by subst e; simp [RVs.len h2]
theorem rdA_len {es : List IE} {σ : L2.St} {H : Hp} {Q : List V → Hp → Prop} (h : rdA G pn W (evs c es) σ H Q) : rdA G pn W (evs c es) σ H fun vs H1 => vs.length = es.length ∧ Q vs H1 := by
  obtain ⟨φ, sl, L, hR, hS, hF⟩ := h
  refine ⟨φ, sl, L, hR, hS, ?_⟩
  cases e : evs c es sl L with
  | stuck => rw [e] at hF; exact hF
  | exc C fs L1 => rw [e] at hF; exact hF
  | ok xs L1 =>
    rw [e] at hF
    exact fun φ' v H' h1 e1 r1 => ⟨by rw [RVs.len r1, evs_len e], hF φ' v H' h1 e1 r1⟩
theorem pi_sndR {p pos : Pos} {args : List Expr} {is : List IE} (hl : Gl X "range") (hm : X.mg "range" = none) (hn : args.length = 1 ∨ args.length = 2) (hlen : is.length = args.length) (hst : ∀ pos, (backTo pos (starEach args X.env)).any (·.1) = false) (ha : PA X args (rdA G pn W (evs c is))) :
    L2.PI X tg (.Call (.Name "range" p) args [] pos) (rdI G pn W .range (evs c is)) := by
  have strip : ∀ {a : Expr} {r : List Expr}, (∀ pos, (backTo pos (starEach (a :: r) X.env)).any (·.1) = false) → starEach (a :: r) X.env = (false, eval a X.env) :: starEach r X.env ∧ ∀ pos, (backTo pos (starEach r X.env)).any (·.1) = false := fun {a r} h => by
    have hs : starEach (a :: r) X.env = (false, eval a X.env) :: starEach r X.env := by
      cases a <;> first | rfl | exact absurd (h pos) (by show (true || _) ≠ false; simp)
    exact ⟨hs, fun pos => by have := h pos; rw [hs] at this; exact this⟩
  have rd : ∀ {σ H R}, rdI G pn W .range (evs c is) σ H R → rdA G pn W (evs c is) σ H fun vs H1 => vs.length = args.length ∧ ((∃ j : Int, vs = [.int j] ∧ -(2 ^ 62) ≤ j ∧ j < 2 ^ 62 ∧ R (Itr 0 (j - 0).toNat) H1) ∨ ∃ i j : Int, vs = [.int i, .int j] ∧ (-(2 ^ 62) ≤ i ∧ i < 2 ^ 62 ∧ -(2 ^ 62) ≤ j ∧ j < 2 ^ 62) ∧ R (Itr i (j - i).toNat) H1) := fun {σ H R} h => by
    refine (rdA_len h).mono fun vs H1 ⟨hl, φ, L, xs, ds, hR, r, hi, hJ⟩ => ⟨by rw [hl, hlen], ?_⟩
    match xs, r, hi, hJ with
    | [], _, hi, _ => cases hi
    | [.ref _], _, hi, _ => cases hi
    | [.exn _ _], _, hi, _ => cases hi
    | [.val d], r, hi, hJ =>
      cases d with
      | int j =>
        obtain ⟨v, rfl, rv⟩ := RVs.one r
        cases (show v = V.int j from rv)
        simp only [itemsV] at hi
        split at hi
        · rename_i hb
          cases hi
          simp only [Bool.and_eq_true, decide_eq_true_eq] at hb
          exact .inl ⟨j, rfl, hb.1, hb.2, hJ _ isIt_range⟩
        · cases hi
      | _ => cases hi
    | x :: y :: z :: w, _, hi, _ => cases hi
    | [x, y], r, hi, hJ =>
      simp only [itemsV] at hi
      split at hi
      · rename_i i j
        split at hi
        · rename_i hb
          cases hi
          simp only [Bool.and_eq_true, decide_eq_true_eq] at hb
          obtain ⟨v, q, rfl, rv, u, q', rfl, ru, rfl⟩ := r
          cases (show v = V.int i from rv)
          cases (show u = V.int j from ru)
          exact .inr ⟨i, j, rfl, ⟨hb.1.1.1, hb.1.1.2, hb.1.2, hb.2⟩, hJ _ isIt_range⟩
        · cases hi
      · cases hi
  match args, hn with
  | [a], _ =>
    obtain ⟨h1, h2⟩ := strip hst
    refine ⟨fun pins s σ H R I h => (pi_range1 (tg := tg) hl hm ha h1).run pins s σ H R I ?_⟩
    refine (rd h).mono fun vs H1 ⟨hl, q⟩ => ?_
    rcases q with ⟨j, rfl, q1, q2, q3⟩ | ⟨i, j, rfl, _⟩
    · exact ⟨j, rfl, q1, q2, by simpa using q3⟩
    · cases hl
  | [a, b], _ =>
    obtain ⟨h1, h2⟩ := strip hst
    obtain ⟨h3, h4⟩ := strip h2
    refine ⟨fun pins s σ H R I h => (pi_range2 (tg := tg) hl hm ha (by rw [h1, h3]; rfl) h3).run pins s σ H R I ?_⟩
    refine (rd h).mono fun vs H1 ⟨hl, q⟩ => ?_
    rcases q with ⟨j, rfl, _⟩ | ⟨i, j, rfl, q1, q2⟩
    · cases hl
    · exact ⟨i, j, rfl, q1, q2⟩
def gNames : List Nat → TGs
  | [] => gNil
  | i :: is => gCons (gName i) (gNames is)
def gT (K : PySem.W.Frag) : ITg → TG
  | .nm i => gName i
  | .tp is => gTup K is.length (gNames is)
theorem nm_ok {cb : Bool} {sc : Scope} {N : List Str} {i : Nat} {y : Str} {q : Pos} (h : nmB cb sc N i (.Name y q) = true) : N[i]? = some y ∧ (sc.names.lookup y = some .local ∨ (cb = true ∧ sc.names.lookup y = some .cell)) := by
  refine ⟨of_decide_eq_true (a1 h), ?_⟩
  have h2 := a2 h
  rw [Bool.or_eq_true, Bool.and_eq_true] at h2
  exact h2.imp locB_ok fun z => ⟨z.1, celB_ok z.2⟩
theorem pg_nm {cb : Bool} (hN : X.N.Nodup) (hf : cb = true → ∀ y, X.fn y = true) {i : Nat} {e : Expr} (h : nmB cb X.env.scope X.N i e = true) : PG X e (gName i) := by
  cases e <;> first | exact ff h | skip
  obtain ⟨e1, e2⟩ := nm_ok h
  rcases e2 with e2 | ⟨e2, e3⟩
  · exact pg_name hN e1 (.inl e2) (.inr e2)
  · exact pg_name hN e1 (.inr e3) (.inl (hf e2 _))
theorem pgs_names {cb : Bool} (hN : X.N.Nodup) (hf : cb = true → ∀ y, X.fn y = true) : ∀ {is : List Nat} {es : List Expr}, nmsB cb X.env.scope X.N is es = true → PGs X es (gNames is) ∧ (assignEach es X.env).length = is.length ∧ (assignEach es X.env).findIdx? (·.1) = none
  | [], [], _ => ⟨pgs_nil, rfl, rfl⟩
  | [], _ :: _, h => ff h
  | _ :: _, [], h => ff h
  | i :: is, e :: es, h => by
    obtain ⟨h1, h2, h3⟩ := pgs_names hN hf (a2 h)
    have hn := a1 h
    have hg := pg_nm hN hf hn
    cases e <;> first | exact ff hn | skip
    refine ⟨pgs_cons hg h1, ?_, ?_⟩
    · show ((assignEach es X.env).length + 1) = _
      rw [h2]; rfl
    · show ((false, _) :: assignEach es X.env).findIdx? (·.1) = none
      rw [List.findIdx?_cons]
      simp [h3]
theorem pg_tg {cb : Bool} (hN : X.N.Nodup) (hf : cb = true → ∀ y, X.fn y = true) {t : ITg} (hc : X.calm = true ∨ ∃ i, t = .nm i) {e : Expr} (h : tgB cb X.env.scope X.N t e = true) : PG X e (gT X.K t) := by
  cases t with
  | nm i => exact pg_nm hN hf h
  | tp is =>
    cases e <;> first | exact ff h | skip
    obtain ⟨h1, h2, h3⟩ := pgs_names hN hf h
    rcases hc with hc | ⟨i, hc⟩
    · exact pg_tup hc h1 h2 h3
    · cases hc
/-- slots but for some -/
def RSlP (G : Gd) (pn : Pn) (φ : List Addr) (O : Addr → Prop) (H : Hp) (bad : Nat → Prop) (sl : SL) (σ : L2.St) : Prop :=
  sl.length = σ.length ∧ ∀ (i : Nat) (x : V2), ¬ bad i → sl[i]? = some (some x) → ∃ v, σ[i]? = some (some v) ∧ RV G pn φ O H x v
theorem RSlP.set {φ : List Addr} {O : Addr → Prop} {H : Hp} {bad bad' : Nat → Prop} {sl : SL} {σ : L2.St} (h : RSlP G pn φ O H bad sl σ) (i : Nat) {x : V2} {v : V} (r : RV G pn φ O H x v) (hb : ∀ j, bad j → bad' j ∨ j = i) : RSlP G pn φ O H bad' (sl.set i (some x)) (σ.set i (some v)) := by
  refine ⟨by simp [h.1], fun j y nb q => ?_⟩
  by_cases hj : i = j
  · subst hj
    by_cases hl : i < sl.length
    · rw [List.getElem?_set_self hl] at q
      cases q
      exact ⟨v, List.getElem?_set_self (by rw [← h.1]; exact hl), r⟩
    · rw [List.getElem?_eq_none (by simpa using hl)] at q; cases q
  · rw [List.getElem?_set_ne hj] at q
    obtain ⟨u, a, b⟩ := h.2 j y (fun z => by
      rcases hb j z with w | w
      · exact nb w
      · exact hj w.symm) q
    exact ⟨u, by rw [List.getElem?_set_ne hj]; exact a, b⟩
theorem store_names {φ : List Addr} {O : Addr → Prop} {H : Hp} : ∀ {is : List Nat} {xs : List D} {vs : List V} {sl : SL} {σ : L2.St}, xs.length = is.length → RDs G O H xs vs → RSlP G pn φ O H (· ∈ is) sl σ → ∀ {Q : L2.St → Hp → Prop},
    (∀ σ', RSl G pn φ O H ((is.zip xs).foldl (fun s p => s.set p.1 (some (.val p.2))) sl) σ' → σ'.length = σ.length → (∀ j, j ∉ is → σ'[j]? = σ[j]?) → Q σ' H) → gNames is vs σ H Q
  | [], [], vs, sl, σ, _, r, h, Q, hq => ⟨r, hq σ ⟨h.1, fun i x => h.2 i x (by simp)⟩ rfl fun _ _ => rfl⟩
  | [], _ :: _, _, _, _, hl, _, _, _, _ => by cases hl
  | _ :: _, [], _, _, _, hl, _, _, _, _ => by cases hl
  | i :: is, x :: xs, vs, sl, σ, hl, r, h, Q, hq => by
    obtain ⟨v, q, rfl, h1, h2⟩ := r
    refine ⟨v, q, rfl, ?_⟩
    have h3 : RSlP G pn φ O H (· ∈ is) (sl.set i (some (.val x))) (σ.set i (some v)) := h.set i (x := .val x) h1 fun j hj => by
      rcases List.mem_cons.mp hj with e | e
      · exact .inr e
      · exact .inl e
    refine store_names (sl := sl.set i (some (.val x))) (by simpa using hl) h2 h3 fun σ' a b d => hq σ' a (by rw [b, List.length_set]) fun j hj => ?_
    simp only [List.mem_cons, not_or] at hj
    rw [d j hj.2, List.getElem?_set_ne (Ne.symm hj.1)]
theorem store_rel (hK : X.K = G.K) {t : ITg} {φ : List Addr} {L : LH} {H : Hp} {d : D} {v : V} {sl sl' : SL} {σ : L2.St} (r : RD G (Own G φ L) H d v) (h : RSlP G pn φ (Own G φ L) H (· ∈ t.slots) sl σ) (e : store t d sl = some sl') {Q : L2.St → Hp → Prop}
    (hq : ∀ σ', RSl G pn φ (Own G φ L) H sl' σ' → σ'.length = σ.length → (∀ j, j ∉ t.slots → σ'[j]? = σ[j]?) → Q σ' H) : gT X.K t v σ H Q := by
  cases t with
  | nm i =>
    cases e
    have h3 : RSlP G pn φ (Own G φ L) H (fun _ => False) (sl.set i (some (.val d))) (σ.set i (some v)) := h.set i (x := .val d) r fun j hj => .inr (by simpa [ITg.slots] using hj)
    exact hq _ ⟨h3.1, fun j x => h3.2 j x (fun z => z)⟩ (by simp) fun j hj => by
      rw [List.getElem?_set_ne]
      simpa [ITg.slots, eq_comm] using hj
  | tp is =>
    cases d with
    | tup xs =>
      simp only [store] at e
      split at e
      · rename_i hl
        cases e
        obtain ⟨a, vs, rfl, t, rs⟩ := r
        exact ⟨a, vs, rfl, by rw [hK]; exact t.sq, by rw [← rs.len]; exact hl, store_names hl rs h hq⟩
      · cases e
    | _ => cases e
theorem wipe_get {σ : L2.St} {j : Nat} : ∀ {vs : List Nat}, j ∈ vs → j < σ.length → (wipe σ vs)[j]? = some none
  | [], h, _ => by cases h
  | v :: vs, h, hl => by
    unfold wipe
    by_cases e : v = j
    · subst e
      rw [List.getElem?_set_self (by rw [wipe_length]; exact hl)]
    · rw [List.getElem?_set_ne e]
      exact wipe_get ((List.mem_cons.mp h).resolve_left (Ne.symm e)) hl
theorem wipe_eq {σ σ' : L2.St} {vs : List Nat} (hl : σ'.length = σ.length) (h : ∀ j, j ∉ vs → σ'[j]? = (wipe σ vs)[j]?) : wipe σ' vs = wipe σ vs := by
  apply List.ext_getElem?
  intro j
  by_cases hj : j ∈ vs
  · by_cases hb : j < σ.length
    · rw [wipe_get hj hb, wipe_get hj (by rw [hl]; exact hb)]
    · rw [List.getElem?_eq_none (by rw [wipe_length]; omega), List.getElem?_eq_none (by rw [wipe_length]; omega)]
  · rw [wipe_out hj, h j hj]
theorem RSl.wipe {φ : List Addr} {O : Addr → Prop} {H : Hp} {sl : SL} {σ : L2.St} {vs : List Nat} (h : RSl G pn φ O H sl σ) : RSlP G pn φ O H (· ∈ vs) sl (wipe σ vs) :=
  ⟨by rw [wipe_length]; exact h.1, fun i x nb q => let ⟨v, a, b⟩ := h.2 i x q; ⟨v, by rw [wipe_out nb]; exact a, b⟩⟩
end
end PI

set_option maxRecDepth 100000
set_option maxHeartbeats 1000000
namespace PI
open PySem PySem.Spec PyProof.Rows L2
/-- one more place is held -/
abbrev Gd.plus (G : Gd) (D : Addr) : Gd := G.at fun a => G.B a ∨ a = D
section
variable {G : Gd} {φ φ' : List Addr} {L L' : LH} {H H' : Hp} {D : Addr}
theorem own_plus {a : Addr} : Own (G.plus D) φ L a ↔ Own G φ L a ∨ a = D :=
  ⟨fun z => z.elim (fun z => .inl (.inl z)) fun z => z.elim (fun z => .inl (.inr z)) .inr, fun z => z.elim (fun z => z.elim .inl fun z => .inr (.inl z)) fun z => .inr (.inr z)⟩
theorem plus_stp (n : H D = none) (o : HO) : Stp (Own G φ L) H (Own (G.plus D) φ L) (upd H D o) :=
  ⟨fun a u e _ => by rw [upd_ne (ne_of_none e n)]; exact e, fun a z => (own_plus.mp z).elim .inl fun z => .inr (by rw [z]; exact n)⟩
theorem HR.hold (h : HR G φ L H) (n : H D = none) (o : HO) : HR (G.plus D) φ L (upd H D o) := by
  have s := plus_stp (G := G) (φ := φ) (L := L) n o
  refine ⟨h.len, fun i u a e1 e2 => ?_, h.inj, fun a z => ?_⟩
  · by_cases hd : u = .dead
    · subst hd; trivial
    · have ha : a ≠ D := fun z => by
        obtain ⟨w, hw⟩ := h.own (.inl ⟨i, u, e1, hd, e2⟩)
        rw [z, n] at hw; cases hw
      exact RO.at s (upd_ne ha) (h.at_ i u a e1 e2)
  · rcases z with z | z
    · have hn : a ≠ D := fun e => h.notB n (e ▸ z)
      exact ⟨by rw [upd_ne hn]; exact (h.res a z).1, (h.res a z).2⟩
    · subst z
      exact ⟨⟨o, upd_same⟩, fun q => h.notOwn n (.inl q)⟩
/-- what is held is written -/
theorem HR.write (h : HR G φ L H) (hb : G.B D) (o : HO) : HR G φ L (upd H D o) ∧ Stp (Own G φ L) H (Own G φ L) (upd H D o) := by
  have s : Stp (Own G φ L) H (Own G φ L) (upd H D o) := ⟨fun a u e n => by rw [upd_ne (fun z => n (.inr (by rw [z]; exact hb)))]; exact e, fun _ z => .inl z⟩
  refine ⟨⟨h.len, fun i u a e1 e2 => ?_, h.inj, fun a z => ?_⟩, s⟩
  · by_cases hd : u = .dead
    · subst hd; trivial
    · have ha : a ≠ D := fun z => (h.res D hb).2 ⟨i, u, e1, hd, z ▸ e2⟩
      exact RO.go' s (upd_ne ha) (h.at_ i u a e1 e2)
  · by_cases hn : a = D
    · subst hn
      exact ⟨⟨o, upd_same⟩, (h.res a z).2⟩
    · exact ⟨by rw [upd_ne hn]; exact (h.res a z).1, (h.res a z).2⟩
/-- let go: nobody's -/
theorem HR.free (h : HR (G.plus D) φ L H) (nb : ¬ G.B D) : HR G φ L H ∧ Stp (Own (G.plus D) φ L) H (Own G φ L) H ∧ ¬ Own G φ L D := by
  have s : Stp (Own (G.plus D) φ L) H (Own G φ L) H := ⟨fun _ _ e _ => e, fun a z => .inl (own_plus.mpr (.inl z))⟩
  refine ⟨⟨h.len, fun i u a e1 e2 => RO.at (G := G.plus D) (B := G.B) s rfl (h.at_ i u a e1 e2), h.inj, fun a z => h.res a (.inl z)⟩, s, fun z => ?_⟩
  rcases z with z | z
  · exact (h.res D (.inr rfl)).2 z
  · exact nb z
/-- let go: as a new list -/
theorem HR.give' (h : HR (G.plus D) φ L H) (nb : ¬ G.B D) {xs : List PI.D} {vs : List V} (hD : H D = some (.lst vs)) (r : RDs (G.plus D) (Own (G.plus D) φ L) H xs vs) : HR G (φ ++ [D]) (L ++ [.lst xs]) H ∧ Stp (Own (G.plus D) φ L) H (Own G (φ ++ [D]) (L ++ [.lst xs])) H := by
  have s : Stp (Own (G.plus D) φ L) H (Own G (φ ++ [D]) (L ++ [.lst xs])) H := ⟨fun _ _ e _ => e, fun a z => .inl (own_plus.mpr (by
    rcases z with z | z
    · rcases ownL_app h.len z with z | z
      · exact .inl (.inl z)
      · exact .inr z
    · exact .inl (.inr z)))⟩
  have ndD : ¬ OwnL φ L D := (h.res D (.inr rfl)).2
  have hlen : φ.length = L.length := h.len
  have old : ∀ {i : Nat} {u : LO} {a : Addr}, (L ++ [.lst xs])[i]? = some u → (φ ++ [D])[i]? = some a → (i < L.length ∧ L[i]? = some u ∧ φ[i]? = some a) ∨ (i = L.length ∧ u = .lst xs ∧ a = D) := fun {i u a} e1 e3 => by
    by_cases hi : i < L.length
    · rw [List.getElem?_append_left hi] at e1
      rw [List.getElem?_append_left (by rw [hlen]; exact hi)] at e3
      exact .inl ⟨hi, e1, e3⟩
    · have hi' : i = L.length := by
        have := (List.getElem?_eq_some_iff.mp e1).1
        simp at this
        omega
      subst hi'
      rw [List.getElem?_append_right (Nat.le_refl _)] at e1
      rw [List.getElem?_append_right (by omega)] at e3
      simp at e1
      simp [hlen] at e3
      exact .inr ⟨rfl, e1.symm, e3.symm⟩
  refine ⟨⟨by simp [hlen], fun i u a e1 e2 => ?_, fun i j u w a e1 d1 e2 d2 e3 e4 => ?_, fun a z => ⟨(h.res a (.inl z)).1, fun q => ?_⟩⟩, s⟩
  · rcases old e1 e2 with ⟨_, q1, q2⟩ | ⟨_, rfl, rfl⟩
    · exact RO.at (G := G.plus D) (B := G.B) s rfl (h.at_ i u a q1 q2)
    · exact ⟨vs, hD, RDs.re (G := G.plus _) (B := G.B) s _ _ r⟩
  · rcases old e1 e3 with ⟨p0, p1, p2⟩ | ⟨p1, rfl, p2⟩
    · rcases old e2 e4 with ⟨q0, q1, q2⟩ | ⟨q1, rfl, q2⟩
      · exact h.inj i j u w a p1 d1 q1 d2 p2 q2
      · exact absurd ⟨i, u, p1, d1, q2 ▸ p2⟩ ndD
    · rcases old e2 e4 with ⟨q0, q1, q2⟩ | ⟨q1, _, q2⟩
      · exact absurd ⟨j, w, q1, d2, p2 ▸ q2⟩ ndD
      · omega
  · rcases ownL_app hlen q with q | q
    · exact (h.res a (.inl z)).2 q
    · exact nb (q ▸ z)
end
end PI

set_option maxRecDepth 100000
set_option maxHeartbeats 1000000
namespace PI
open PySem PySem.Spec PyProof.Rows L2
abbrev noWX : WX := fun _ _ _ _ => False
noncomputable def testG (c : Cl) (ts : List IE) : SL → LH → R Bool := fun sl L => (evs c ts sl L).bind fun bs L2 => R.opt (testOf bs L2) L2
noncomputable def turnF (c : Cl) (ts : List IE) (elt : IE) : SL → LH → R (Option D) := fun sl' L' => (evs c ts sl' L').bind fun bs L2 => (match testOf bs L2 with
        | some true => (ev c elt sl' L2).bind fun x L3 => (match x.dat? with
          | some d => .ok (some d) L3
          | none => .stuck)
        | some false => .ok none L2
        | none => .stuck)
theorem turnF_eq (c : Cl) (ts : List IE) (elt : IE) (sl : SL) (L : LH) : turnF c ts elt sl L = (testG c ts sl L).bind fun b L2 => if b = true then (ev c elt sl L2).bind fun x L3 => (match x.dat? with
          | some d => .ok (some d) L3
          | none => .stuck) else .ok none L2 := by
  unfold turnF testG
  cases evs c ts sl L with
  | stuck => rfl
  | exc C fs L1 => rfl
  | ok bs L1 =>
    simp only [R.bind_ok]
    cases testOf bs L1 with
    | none => rfl
    | some b => cases b <;> rfl
theorem drop_at {α : Type} {ds : List α} {i : Nat} (h : i < ds.length) : ∃ d, ds[i]? = some d ∧ ds.drop i = d :: ds.drop (i + 1) := ⟨ds[i], by simp [h], by rw [List.drop_eq_getElem_cons h]⟩
theorem slots_own (tg : ITg) (N : List Str) : (ownOf tg N).map (·.2) = tg.slots := by
  unfold ownOf
  rw [List.map_map]
  exact List.map_id' _
theorem dat_rv {G : Gd} {pn : Pn} {φ : List Addr} {O : Addr → Prop} {H : Hp} {x : V2} {v : V} {d : D} (e : x.dat? = some d) (r : RV G pn φ O H x v) : RD G O H d v := by
  cases x with
  | val y => cases e; exact r
  | ref n => cases e
  | exn C fs => cases e
section
variable {G : Gd} {W : WX} {X : Cx} {c : Cl} {σ : L2.St}
theorem comp_rd (hK : X.K = G.K) {own : Bool} {elt : IE} {tg : ITg} {ik : IK} {it ts : List IE} (hhot : c.hot = false) {H : Hp} {Q : VK} (hq : rdE G [] W (ev c (.comp own elt tg ik it ts)) σ H Q) :
    tLc (rdI G [] W ik (evs c it)) (gT X.K tg) (fun σ H Q => ∃ B, rdT (G.at B) [] noWX (testG c ts) σ H Q) (fun σ H Q => ∃ B, rdE (G.at B) [] noWX (ev c elt) σ H Q) ((ownOf tg X.N).map (·.2)) σ H Q := by
  obtain ⟨φ, sl, L, hR, hS, hF⟩ := hq
  simp only [ev, hhot, Bool.false_eq_true, if_false] at hF
  rw [slots_own]
  unfold tLc
  refine (bindA hR hS hF).mono fun vs H1 ⟨φ1, L1, xs, hR1, e1, r1, hS1, hF1⟩ => ?_
  cases hit : itemsV ik xs L1 with
  | none => rw [hit] at hF1; exact hF1.elim
  | some ds =>
    rw [hit] at hF1
    refine ⟨φ1, L1, xs, ds, hR1, r1, hit, fun J hJ D hD => ?_⟩
    have hF1 : Fin G (RelV2 G []) (WEx G W σ) φ1 L1 H1 Q ((compGo (turnF c ts elt) tg sl (srcOf ik xs) ds L1.length ds [] L1).bind fun ys L2 => newL own ys L2) := hF1
    have nb : ¬ G.B D := hR1.notB hD
    let Pv : Nat → Hp → Prop := fun j H => ∃ (φ : List Addr) (L : LH) (ys : List PI.D) (vs : List V), HR (G.plus D) φ L H ∧ Stp (Own G φ1 L1) H1 (Own (G.plus D) φ L) H ∧ φ1 <+: φ ∧ (∀ a, G.B a → H a = H1 a) ∧ H D = some (.lst vs) ∧ RDs (G.plus D) (Own (G.plus D) φ L) H ys vs ∧
      Fin G (RelV2 G []) (WEx G W σ) φ1 L1 H1 Q ((compGo (turnF c ts elt) tg sl (srcOf ik xs) ds L1.length (ds.drop j) ys L).bind fun ys L2 => newL own ys L2)
    refine ⟨fun j m H => m = ds.length - j ∧ j ≤ ds.length ∧ Pv j H, ⟨ds.length, by simp, Nat.zero_le _, φ1, L1, [], [], hR1.hold hD _, plus_stp hD _, List.prefix_refl _, fun a z => upd_ne fun q => nb (by rw [← q]; exact z), upd_same, rfl, hF1⟩, ?_⟩
    rintro j m H2 ⟨rfl, hj, φ2, L2, ys, vs2, g1, g2, g3, g4, g5, g6, g7⟩
    by_cases hlt : j < ds.length
    · right
      obtain ⟨d, hd, hdrop⟩ := drop_at hlt
      rw [hdrop] at g7
      simp only [compGo] at g7
      by_cases hsrc : srcOk (srcOf ik xs) ds L2
      · rw [if_pos hsrc] at g7
        obtain ⟨hgo, hyld⟩ := (hJ _ φ2 L2 H2 g1 g2 g3 hsrc).1 j d hd
        refine ⟨hgo, Pv (j + 1), fun H' p' => ⟨ds.length - (j + 1), by omega, rfl, hlt, p'⟩, fun x H' y => ?_⟩
        obtain ⟨y1, y2, y3⟩ := hyld x H' y
        cases hst : store tg d sl with
        | none => rw [hst] at g7; exact g7.elim
        | some sl' =>
          rw [hst] at g7
          simp only [turnF_eq] at g7
          have hS2 : RSl (G.plus D) [] φ2 (Own (G.plus D) φ2 L2) H' sl σ := RSl.go y2 (RSl.at (B := fun a => G.B a ∨ a = D) g2 g3 hS1)
          refine store_rel (G := G.plus D) (pn := []) hK y3 hS2.wipe hst fun σ' hs1 hs2 hs3 => ⟨wipe_eq (by rw [hs2, wipe_length]) hs3, _, φ2, sl', L2, y1, hs1, ?_⟩
          cases hT : testG c ts sl' L2 with
          | stuck => rw [hT] at g7; exact g7.elim
          | exc C fs L3 => rw [hT] at g7; exact g7.elim
          | ok b L3 =>
            rw [hT] at g7
            intro φ3 v H3 f1 f2 f3
            subst f3
            have s3 := (g2.trans y2.stp).trans f2.stp
            have p3 := (g3.trans y2.pre).trans f2.pre
            have h3 : ∀ a, G.B a → H3 a = H1 a := fun a z => ((f2.held a (.inl z)).trans (y2.held a (.inl z))).trans (g4 a z)
            have d3 : H3 D = some (.lst vs2) := ((f2.held D (.inr rfl)).trans (y2.held D (.inr rfl))).trans g5
            have r3 : RDs (G.plus D) (Own (G.plus D) φ3 L3) H3 ys vs2 := RDs.go (y2.stp.trans f2.stp) _ _ g6
            cases b with
            | false =>
              simp only [R.bind_ok, Bool.false_eq_true, if_false] at g7
              simp only [Bool.false_eq_true, if_false]
              by_cases hlen : L3.length = L1.length
              · rw [if_pos hlen] at g7
                exact ⟨φ3, L3, ys, vs2, f1, s3, p3, h3, d3, r3, g7⟩
              · rw [if_neg hlen] at g7; exact g7.elim
            | true =>
              simp only [R.bind_ok, if_true] at g7
              simp only [if_true]
              refine ⟨_, φ3, sl', L3, f1, RSl.go f2 hs1, ?_⟩
              cases hE : ev c elt sl' L3 with
              | stuck => rw [hE] at g7; exact g7.elim
              | exc C fs L4 => rw [hE] at g7; exact g7.elim
              | ok z L4 =>
                rw [hE] at g7
                simp only [R.bind_ok] at g7
                intro φ4 w H4 k1 k2 k3
                cases hz : z.dat? with
                | none => rw [hz] at g7; exact g7.elim
                | some dd =>
                  rw [hz] at g7
                  simp only at g7
                  by_cases hlen : (decide (L4.length = L1.length) && decide (ys.length < lim)) = true
                  · rw [if_pos hlen] at g7
                    simp only [Bool.and_eq_true, decide_eq_true_eq] at hlen
                    have d4 : H4 D = some (.lst vs2) := (k2.held D (.inr rfl)).trans d3
                    have r4 := RDs.go k2.stp _ _ r3
                    obtain ⟨w1, w2⟩ := k1.write (D := D) (.inr rfl) (.lst (vs2 ++ [w]))
                    refine ⟨vs2, d4, by rw [← r4.len, ← lim_eq]; exact hlen.2, φ4, L4, ys ++ [dd], vs2 ++ [w], w1, (s3.trans k2.stp).trans w2, p3.trans k2.pre, fun a z => ?_, upd_same, RDs.go w2 _ _ (r4.app (RDs.one (dat_rv hz k3))), g7⟩
                    rw [upd_ne fun q => nb (by rw [← q]; exact z)]
                    exact (k2.held a (.inl z)).trans (h3 a z)
                  · rw [if_neg hlen] at g7; exact g7.elim
      · rw [if_neg hsrc] at g7; exact g7.elim
    · left
      have ej : j = ds.length := by omega
      subst ej
      rw [List.drop_length] at g7
      simp only [compGo] at g7
      by_cases hsrc : srcOk (srcOf ik xs) ds L2
      · rw [if_pos hsrc] at g7
        simp only [R.bind_ok] at g7
        refine ⟨(hJ _ φ2 L2 H2 g1 g2 g3 hsrc).2, ?_⟩
        unfold newL at g7
        by_cases hl : ys.length ≤ lim
        · rw [if_pos hl] at g7
          cases own with
          | false =>
            obtain ⟨q1, q2, q3⟩ := g1.free nb
            exact g7 φ2 (.ref D) H2 q1 ⟨g2.trans q2, g3, g4⟩ ⟨D, vs2, rfl, ⟨.inl g5, q3⟩, RDs.re (G := G.plus D) (B := G.B) q2 _ _ g6⟩
          | true =>
            obtain ⟨q1, q2⟩ := g1.give' nb g5 g6
            exact g7 _ (.ref D) H2 q1 ⟨g2.trans q2, g3.trans (List.prefix_append _ _), g4⟩ ⟨D, rfl, by
              have := g1.len
              rw [List.getElem?_append_right (by omega)]
              simp [this]⟩
        · rw [if_neg hl] at g7; exact g7.elim
      · rw [if_neg hsrc] at g7; exact g7.elim
theorem snd_comp (hK : X.K = G.K) (hcalm : X.calm = true) (hN : X.N.Nodup) {own : Bool} {elt : IE} {tg : ITg} {ik : IK} {it ts : List IE} {e t i : Expr} {ifs : List Expr} {scope : Scope} {p : Pos} (hhot : c.hot = false)
    (hi : L2.PI X t i (rdI G [] W ik (evs c it))) (ok : L2.blkC X.N X.env.scope scope (ownOf tg X.N) = true) (htg : tgB false (relS scope X.env.scope) X.N tg t = true) (hset : notSet i = true)
    (ht : ∀ (B : Addr → Prop) (s : Shared) (H : Hp) (C : Addr) (cl : List (Str × Addr)) (fp : List Addr), PTs (X.blk s H scope (compEnvC scope cl C X.env) fp) ifs (rdT (G.at B) [] noWX (testG c ts)))
    (he : ∀ (B : Addr → Prop) (s : Shared) (H : Hp) (C : Addr) (cl : List (Str × Addr)) (fp : List Addr), PE (X.blk s H scope (compEnvC scope cl C X.env) fp) e (rdE (G.at B) [] noWX (ev c elt))) :
    PE X (.ListComp e [⟨t, i, ifs, 0⟩] scope p) (rdE G [] W (ev c (.comp own elt tg ik it ts))) :=
  (pe_lc (g := gT X.K tg) (tt := fun σ H Q => ∃ B, rdT (G.at B) [] noWX (testG c ts) σ H Q) (te := fun σ H Q => ∃ B, rdE (G.at B) [] noWX (ev c elt) σ H Q) hcalm hN hi (L2.blkOk_by ok)
    (fun s H C cl fp => pg_tg (X := X.blk s H scope (compEnvC scope cl C X.env) fp) hN (fun z => by cases z) (.inl hcalm) htg)
    (fun s H C cl fp => ⟨fun pins s' σ' H' Q I ⟨B, q⟩ => (ht B s H C cl fp).run pins s' σ' H' Q I q⟩)
    (fun s H C cl fp => ⟨fun pins s' σ' H' Q I ⟨B, q⟩ => (he B s H C cl fp).run pins s' σ' H' Q I q⟩)
    (by intro x; cases i <;> first | exact ff hset | rfl)).imp fun σ H Q q => comp_rd hK hhot q
/-- name = [..] -/
theorem set_comp (hK : X.K = G.K) (hcalm : X.calm = true) (hN : X.N.Nodup) {own : Bool} {elt : IE} {tg : ITg} {ik : IK} {it ts : List IE} {e t i : Expr} {ifs : List Expr} {scope : Scope} {p py spos : Pos} {n : Nat} {y : Str} (hhot : c.hot = false)
    (hy : X.N[n]? = some y) (hyl : X.env.scope.names.lookup y = some .local) (hsw : swapsWith (.ListComp e [⟨t, i, ifs, 0⟩] scope p) (some (.Name y py)) spos.line X.env = pure true)
    (hi : L2.PI X t i (rdI G [] W ik (evs c it))) (ok : L2.blkC X.N X.env.scope scope (ownOf tg X.N) = true) (htg : tgB false (relS scope X.env.scope) X.N tg t = true) (hset : notSet i = true)
    (ht : ∀ (B : Addr → Prop) (s : Shared) (H : Hp) (C : Addr) (cl : List (Str × Addr)) (fp : List Addr), PTs (X.blk s H scope (compEnvC scope cl C X.env) fp) ifs (rdT (G.at B) [] noWX (testG c ts)))
    (he : ∀ (B : Addr → Prop) (s : Shared) (H : Hp) (C : Addr) (cl : List (Str × Addr)) (fp : List Addr), PE (X.blk s H scope (compEnvC scope cl C X.env) fp) e (rdE (G.at B) [] noWX (ev c elt))) :
    PS X (.Assign [.Name y py] (.ListComp e [⟨t, i, ifs, 0⟩] scope p) spos) (tAsg (tLc (rdI G [] W ik (evs c it)) (gT X.K tg) (fun σ H Q => ∃ B, rdT (G.at B) [] noWX (testG c ts) σ H Q) (fun σ H Q => ∃ B, rdE (G.at B) [] noWX (ev c elt) σ H Q) ((ownOf tg X.N).map (·.2))) (gName n)) :=
  ps_setLc hcalm hN hy hyl hsw hi (L2.blkOk_by ok)
    (fun s H C cl fp => pg_tg (X := X.blk s H scope (compEnvC scope cl C X.env) fp) hN (fun z => by cases z) (.inl hcalm) htg)
    (fun s H C cl fp => ⟨fun pins s' σ' H' Q I ⟨B, q⟩ => (ht B s H C cl fp).run pins s' σ' H' Q I q⟩)
    (fun s H C cl fp => ⟨fun pins s' σ' H' Q I ⟨B, q⟩ => (he B s H C cl fp).run pins s' σ' H' Q I q⟩)
    (by intro x; cases i <;> first | exact ff hset | rfl)
end
end PI

set_option maxRecDepth 100000
set_option maxHeartbeats 1000000
namespace PI
open PySem PySem.Spec PyProof.Rows L2
section
variable {G : Gd} {T : Tb} {P : Prog} {hot : Bool} {k : Nat} {pn : Pn} {W : WX} {X : Cx}
theorem Am.blk (A : Am G T P hot k pn W X) (hh : hot = false) (B : Addr → Prop) (s : Shared) (H : Hp) (scope : Scope) (C : Addr) (cl : List (Str × Addr)) (fp : List Addr) : Am (G.at B) T P hot k [] noWX (X.blk s H scope (compEnvC scope cl C X.env) fp) :=
  ⟨A.hK, (A.at B).ft, (A.at B).fn, A.room, A.calm, fun _ => rfl, (fun z => by rw [hh] at z; cases z), (fun p hp => by cases hp), fun u s' ⟨a, B, sI, pins, σ, H, cls, d, e, I, nb, up, sky, na, os, ag, w⟩ => w.elim, A.nd⟩
theorem pw_pt {o : BoolOp} {l : List Expr} {p : Pos} {t : TT} (h : PT X (.BoolOp o l p) t) : PW X (.BoolOp o l p) t := ⟨fun wh pins s σ H Q I q => h.run pins s σ H Q I q⟩
theorem not_star {ir : IE} {sc : Scope} {N : List Str} {x : Expr} (h : okE T ir sc N x = true) : notStar x = true := by
  cases x <;> first | rfl | skip
  cases ir <;> exact ff h
theorem snd_t0 {c : Cl} : PTs X [] (rdT G pn W (testG c [])) := ⟨fun pins s σ H Q I ⟨φ, sl, L, hR, hS, hF⟩ => pts_nil.run pins s σ H Q I (by
  simp only [testG, evs, R.bind_ok, testOf, R.opt_some] at hF
  exact hF φ true H hR (Ext.refl _ _ _ _) rfl)⟩
theorem snd_t1 {c : Cl} {e : IE} {x : Expr} (h : PT X x (rdT G pn W (evt c e))) : PTs X [x] (rdT G pn W (testG c [e])) := ⟨fun pins s σ H Q I ⟨φ, sl, L, hR, hS, hF⟩ => (pts_one h).run pins s σ H Q I (by
  refine ⟨φ, sl, L, hR, hS, ?_⟩
  simp only [testG, evs] at hF
  simp only [evt]
  cases h1 : ev c e sl L with
  | stuck => rw [h1] at hF; exact hF
  | exc C fs L1 => rw [h1] at hF; exact hF
  | ok y L1 => rw [h1] at hF; exact hF)⟩
theorem walk_of {c : Cl} {ik : IK} {it : List IE} {i t : Expr} {xs : List Expr} (A : Am G T P hot k pn W X) (h : itArgs T X.env.scope ik i = some xs) (ok : okEs T it X.env.scope X.N xs = true) (ha : PA X xs (rdA G pn W (evs c it))) (he : ∀ e x, it = [e] → okE T e X.env.scope X.N x = true → PE X x (rdE G pn W (ev c e))) : L2.PI X t i (rdI G pn W ik (evs c it)) := by
  cases ik with
  | over =>
    simp only [itArgs] at h
    split at h
    · cases h
      match it, ok with
      | [], ok => exact ff ok
      | [e], ok => exact pi_sndO A.hK (he e i rfl (a1 (a1 ok)))
      | _ :: _ :: _, ok => exact ff (a2 ok)
    · cases h
  | range =>
    cases i <;> first | cases h | skip
    rename_i g args kws pos
    cases g <;> first | cases h | skip
    cases kws <;> first | cases h | skip
    simp only [itArgs] at h
    split at h
    · rename_i hb
      cases h
      have e1 : _ = ("range" : Str) := of_decide_eq_true (a1 (a1 (a1 hb)))
      subst e1
      have e2 := a2 (a1 (a1 hb))
      have e3 := glB_ok (a2 (a1 hb))
      have e4 : xs.length = 1 ∨ xs.length = 2 := by simpa using a2 hb
      exact pi_sndR e3 (A.ft.free _ (by simpa using e2)) e4 (okEs_len ok) (okEs_star ok) ha
    · cases h
  | enum => cases h
  | zip => cases h
  | revd => cases h
theorem hot_comp {c : Cl} {own : Bool} {elt : IE} {tg : ITg} {ik : IK} {it ts : List IE} {x : Expr} (h : c.hot = true) : PE X x (rdE G pn W (ev c (.comp own elt tg ik it ts))) :=
  ⟨fun pins s σ H Q I ⟨φ, sl, L, hR, hS, hF⟩ => by simp [ev, h, Fin] at hF⟩
end
variable {T : Tb} {P : Prog} {hot : Bool} {k : Nat}
mutual
theorem sndE : ∀ (ir : IE) {G : Gd} {pn : Pn} {W : WX} {X : Cx} (A : Am G T P hot k pn W X) {x : Expr}, okE T ir X.env.scope X.N x = true → PE X x (rdE G pn W (ev (cl P hot k) ir)) ∧ PT X x (rdT G pn W (evt (cl P hot k) ir))
  | .c d, G, pn, W, X, A, x, h => by
    obtain ⟨q, j, p, rfl, h1⟩ := okE_c h
    have := snd_c (G := G) (pn := pn) (W := W) (X := X) (c := cl P hot k) (p := p) (k := q) (j := j) h1
    exact ⟨this, ptv A.hK this (by intro _; rfl)⟩
  | .v i, G, pn, W, X, A, x, h => by
    obtain ⟨y, p, rfl, h1, h2, h3, h4⟩ := okE_v h
    have := snd_v (G := G) (pn := pn) (W := W) (X := X) (c := cl P hot k) (p := p) h1 h2 h3 h4
    exact ⟨this, ptv A.hK this (by intro _; rfl)⟩
  | .g i, G, pn, W, X, A, x, h => by
    obtain ⟨y, p, rfl, h1, h2, h3, h4⟩ := okE_g h
    have := snd_g (G := G) (pn := pn) (W := W) (X := X) (c := cl P hot k) (p := p) A.ft rfl h1 h2 h3 h4
    exact ⟨this, ptv A.hK this (by intro _; rfl)⟩
  | .tup es, G, pn, W, X, A, x, h => by
    obtain ⟨xs, j, p, rfl, h1⟩ := okE_tup h
    have := snd_tup (p := p) (sndEs es A h1) (j := j)
    exact ⟨this, ptv A.hK this (by intro _; rfl)⟩
  | .lst own es, G, pn, W, X, A, x, h => by
    obtain ⟨xs, p, rfl, h1⟩ := okE_lst h
    have := snd_lst (p := p) (own := own) (sndEs es A h1)
    exact ⟨this, ptv A.hK this (by intro _; rfl)⟩
  | .bin op own a b, G, pn, W, X, A, x, h => by
    obtain ⟨y, o, z, p, rfl, rfl, h1, h2⟩ := okE_bin h
    have := snd_bin (p := p) A.hK (op := op) (own := own) (sndE a A h1).1 (sndE b A h2).1
    exact ⟨this, ptv A.hK this (by intro _; rfl)⟩
  | .neg a, G, pn, W, X, A, x, h => by
    obtain ⟨y, p, rfl, h1⟩ := okE_neg h
    have := snd_neg (p := p) (sndE a A h1).1
    exact ⟨this, ptv A.hK this (by intro _; rfl)⟩
  | .cmp op a b, G, pn, W, X, A, x, h => by
    obtain ⟨y, o, z, p, rfl, rfl, h1, h2, h3⟩ := okE_cmp h
    exact snd_cmp A.hK A.un h3 (sndE a A h1).1 (sndE b A h2).1
  | .chain o1 o2 a b d, G, pn, W, X, A, x, h => by
    obtain ⟨y, p1, p2, z, w, p, rfl, rfl, rfl, h1, h2, h3, h4⟩ := okE_chain h
    exact snd_chain A.hK A.un h4 (sndE a A h1).1 (sndE b A h2).1 (sndE d A h3).1
  | .and a b, G, pn, W, X, A, x, h => by
    obtain ⟨y, z, r, p, rfl, h1, h2⟩ := okE_and h
    rcases h2 with ⟨rfl, h2⟩ | h2
    · obtain ⟨q1, q2⟩ := sndE b A h2
      have := snd_and A.hK (sndE a A h1).1 (sndE a A h1).2 (pe_one (pos := p) q1) (pw_and1 q2)
      exact ⟨this.1, this.2.pt⟩
    · obtain ⟨q1, q2⟩ := sndE b A h2
      have := snd_and A.hK (sndE a A h1).1 (sndE a A h1).2 q1 (pw_pt q2)
      exact ⟨this.1, this.2.pt⟩
  | .or a b, G, pn, W, X, A, x, h => by
    obtain ⟨y, z, r, p, rfl, h1, h2⟩ := okE_or h
    rcases h2 with ⟨rfl, h2⟩ | h2
    · obtain ⟨q1, q2⟩ := sndE b A h2
      have := snd_or A.hK (sndE a A h1).1 (sndE a A h1).2 (pe_one (pos := p) q1) (pw_or1 q2)
      exact ⟨this.1, this.2.pt⟩
    · obtain ⟨q1, q2⟩ := sndE b A h2
      have := snd_or A.hK (sndE a A h1).1 (sndE a A h1).2 q1 (pw_pt q2)
      exact ⟨this.1, this.2.pt⟩
  | .not a, G, pn, W, X, A, x, h => by
    obtain ⟨y, p, rfl, h1⟩ := okE_not h
    exact snd_not A.hK (sndE a A h1).1 (sndE a A h1).2
  | .ife t a b, G, pn, W, X, A, x, h => by
    obtain ⟨y, z, w, p, rfl, h1, h2, h3⟩ := okE_ife h
    exact snd_ife (sndE t A h1).2 (sndE a A h2).1 (sndE a A h2).2 (sndE b A h3).1 (sndE b A h3).2
  | .sub a i, G, pn, W, X, A, x, h => by
    obtain ⟨y, z, p, rfl, h1, h2, h3⟩ := okE_sub h
    have := snd_sub (p := p) A.hK h3 (sndE a A h1).1 (sndE i A h2).1
    exact ⟨this, ptv A.hK this (by intro _; rfl)⟩
  | .slice own a lo hi, G, pn, W, X, A, x, h => by
    obtain ⟨y, l, u, p, q, rfl, h1, h2, h3⟩ := okE_slice h
    have := snd_slice (p := q) (p2 := p) (own := own) A.hK (sndE a A h1).1 (sndP lo A h2) (sndP hi A h3)
    exact ⟨this, ptv A.hK this (by intro _; rfl)⟩
  | .rev own a, G, pn, W, X, A, x, h => by
    obtain ⟨y, q, p1, p2, p3, p, rfl, h1⟩ := okE_rev h
    have := snd_rev (p := p) (p1 := p1) (p2 := p2) (p3 := p3) (own := own) (k := q) A.hK (sndE a A h1).1
    exact ⟨this, ptv A.hK this (by intro _; rfl)⟩
  | .call own f es ks, G, pn, W, X, A, x, h => by
    obtain ⟨y, p, args, kws, q, rfl, h1, h2, h3, h4, h5, h6⟩ := okE_call h
    have := snd_call (p := p) (pos := q) (own := own) A h1 h2 h3 h4 h5 h6 (sndEs es A h5) (sndKs ks A h6)
    exact ⟨this, ptv A.hK this (by intro _; rfl)⟩
  | .bi own b es, G, pn, W, X, A, x, h => by
    obtain ⟨y, p, args, q, rfl, h1, h2, h3, h4, h5, h6, h7⟩ := okE_bi h
    have := snd_bi (p := p) (pos := q) (own := own) (c := cl P hot k) A.hK A.calm h1 h2 (A.ft.free y h3) h4 h5 h7 (okEs_star h6) (sndEs es A h6)
    exact ⟨this, ptv A.hK this (by intro _; rfl)⟩
  | .isi e cs, G, pn, W, X, A, x, h => by
    obtain ⟨y, p, z, v, q, rfl, h1, h2, h3, h4, h5⟩ := okE_isi h
    have := snd_isi (p := p) (pos := q) (c := cl P hot k) A.hK A.ft rfl h1 h2 h3 (not_star h4) h5 (sndE e A h4).1
    exact ⟨this, ptv A.hK this (by intro _; rfl)⟩
  | .comp own elt tg ik it ts, G, pn, W, X, A, x, h => by
    obtain ⟨e, t, i, ifs, scope, p, xs, rfl, h1, h2, h3, h4, h5, h6, h7, h8, h9⟩ := okE_comp h
    cases hh : hot with
    | true =>
      have : PE X (.ListComp e [⟨t, i, ifs, 0⟩] scope p) (rdE G pn W (ev (cl P true k) (.comp own elt tg ik it ts))) := hot_comp rfl
      exact ⟨this, ptv A.hK this (by intro _; rfl)⟩
    | false =>
      have hp : pn = [] := A.pn0 hh
      subst hp
      have hw : L2.PI X t i (rdI G [] W ik (evs (cl P hot k) it)) := walk_of A h3 h4 (sndEs it A h4) (sndH it A)
      have ht := fun (B : Addr → Prop) (s : Shared) (H : Hp) (C : Addr) (cl' : List (Str × Addr)) (fp : List Addr) => sndTs ts (A.blk hh B s H scope C cl' fp) h5 h6
      have he := fun (B : Addr → Prop) (s : Shared) (H : Hp) (C : Addr) (cl' : List (Str × Addr)) (fp : List Addr) => (sndE elt (A.blk hh B s H scope C cl' fp) h7).1
      subst hh
      have := snd_comp (own := own) (p := p) A.hK (A.calm rfl) A.nd rfl hw h1 h2 h8 ht he
      exact ⟨this, ptv A.hK this (by intro _; rfl)⟩
  | .meth own m e es, G, pn, W, X, A, x, h => by
    obtain ⟨y, n, ap, args, cp, rfl, h1, h2, h3, h4, h5, h6, h7⟩ := okE_meth h
    have := snd_meth (own := own) A.hK h1 h2 h4 h3 h7 (okEs_star h6) (okEs_len h6) (sndE e A h5).1 (sndEs es A h6)
    exact ⟨this, ptv A.hK this (by intro _; rfl)⟩
theorem sndEs : ∀ (es : List IE) {G : Gd} {pn : Pn} {W : WX} {X : Cx} (A : Am G T P hot k pn W X) {xs : List Expr}, okEs T es X.env.scope X.N xs = true → PA X xs (rdA G pn W (evs (cl P hot k) es))
  | [], G, pn, W, X, A, [], h => snd_nil
  | [], G, pn, W, X, A, _ :: _, h => ff h
  | _ :: _, G, pn, W, X, A, [], h => ff h
  | e :: es, G, pn, W, X, A, x :: xs, h => snd_cons (a2 (a1 h)) (sndE e A (a1 (a1 h))).1 (sndEs es A (a2 h))
/-- the single one -/
theorem sndH : ∀ (it : List IE) {G : Gd} {pn : Pn} {W : WX} {X : Cx} (A : Am G T P hot k pn W X) (e : IE) (x : Expr), it = [e] → okE T e X.env.scope X.N x = true → PE X x (rdE G pn W (ev (cl P hot k) e))
  | [], G, pn, W, X, A, e, x, q, h => by cases q
  | [e'], G, pn, W, X, A, e, x, q, h => by
    have e1 : e' = e := by injection q
    have := fun h' => (sndE e' A (x := x) h').1
    rw [← e1] at h ⊢
    exact this h
  | _ :: _ :: _, G, pn, W, X, A, e, x, q, h => by cases q
/-- tests of a comprehension -/
theorem sndTs : ∀ (ts : List IE) {G : Gd} {pn : Pn} {W : WX} {X : Cx} (A : Am G T P hot k pn W X) {xs : List Expr}, okEs T ts X.env.scope X.N xs = true → xs.length ≤ 1 → PTs X xs (rdT G pn W (testG (cl P hot k) ts))
  | [], G, pn, W, X, A, [], h, _ => snd_t0
  | [], G, pn, W, X, A, _ :: _, h, _ => ff h
  | _ :: _, G, pn, W, X, A, [], h, _ => ff h
  | [e], G, pn, W, X, A, [x], h, _ => snd_t1 (sndE e A (a1 (a1 h))).2
  | _ :: _ :: _, G, pn, W, X, A, [_], h, _ => ff (a2 h)
  | _ :: _, G, pn, W, X, A, _ :: _ :: _, h, hl => absurd hl (by simp)
theorem sndKs : ∀ (es : List (Nat × IE)) {G : Gd} {pn : Pn} {W : WX} {X : Cx} (A : Am G T P hot k pn W X) {xs : List Keyword}, okKs T es X.env.scope X.N xs = true → PK X xs (rdK G pn W (evk (cl P hot k) es))
  | [], G, pn, W, X, A, [], h => snd_knil
  | [], G, pn, W, X, A, _ :: _, h => ff h
  | _ :: _, G, pn, W, X, A, [], h => ff h
  | (n, e) :: es, G, pn, W, X, A, ⟨none, x, kp⟩ :: xs, h => ff h
  | (n, e) :: es, G, pn, W, X, A, ⟨some m, x, kp⟩ :: xs, h => snd_kcons (sndE e A (a2 (a1 h))).1 (sndKs es A (a2 h))
theorem sndP : ∀ (e : Option IE) {G : Gd} {pn : Pn} {W : WX} {X : Cx} (A : Am G T P hot k pn W X) {x : Option Expr}, okP T e X.env.scope X.N x = true → PO X x (rdP G pn W (evp (cl P hot k) e))
  | none, G, pn, W, X, A, none, h => snd_po0
  | none, G, pn, W, X, A, some _, h => ff h
  | some _, G, pn, W, X, A, none, h => ff h
  | some e, G, pn, W, X, A, some x, h => snd_po (sndE e A h).1
end
end PI

set_option maxRecDepth 100000
set_option maxHeartbeats 1000000
namespace PI
open PySem PySem.Spec PyProof.Rows L2

def notComp : Expr → Bool
  | .ListComp _ _ _ _ => false
  | .SetComp _ _ _ _ => false
  | .DictComp _ _ _ _ _ => false
  | _ => true
def notTup : Expr → Bool
  | .Tuple _ _ _ => false
  | _ => true
/-- name = [..] on one line -/
def compB : Expr → Expr → Bool
  | .Name y py, .ListComp _ _ scope p => (py.line == p.line) && !(scope.names.any fun (n, k) => n == y && (k == .local || k == .cell))
  | _, _ => false
mutual
def okS (T : Tb) : IS → Scope → List Str → Stmt → Bool
  | .set i e, sc, N, .Assign [t] x _ => nmB true sc N i t && okE T e sc N x && (notComp x || (compB t x && nmB false sc N i t))
  | .unp is e, sc, N, .Assign [t] x _ => tgB true sc N (.tp is) t && okE T e sc N x && notComp x && notTup x
  | .put o i e, sc, N, .Assign [.Subscript a b _] x _ => okE T e sc N x && okE T o sc N a && okE T i sc N b && notComp x && notSlice b
  | .ex e, sc, N, .Expr x _ => okE T e sc N x && notComp x
  | .ret none, _, _, .Return none _ => true
  | .ret (some e), sc, N, .Return (some x) _ => okE T e sc N x
  | .ife t a b, sc, N, .If x y z _ => okE T t sc N x && okB T a sc N y && okB T b sc N z
  | .for_ tg k it b, sc, N, .For t i body [] _ => tgB true sc N tg t && (match itArgs T sc k i with
      | some xs => okEs T it sc N xs
      | none => false) && okB T b sc N body && notSet i
  | .whl t b, sc, N, .While x body [] _ => okE T t sc N x && okB T b sc N body
  | .pass, _, _, .Pass _ => true
  | .pass, _, _, .Expr (.Constant (.str _) _ _) _ => true
  | .brk, _, _, .Break _ => true
  | .cont, _, _, .Continue _ => true
  | _, _, _, _ => false
def okB (T : Tb) : List IS → Scope → List Str → List Stmt → Bool
  | [], _, _, [] => true
  | s :: r, sc, N, xs => (match s, xs with
    | .frz _, xs => okB T r sc N xs
    | s, x :: xs => okS T s sc N x && okB T r sc N xs
    | _, [] => false)
  | [], _, _, _ :: _ => false
end

def FinS (G : Gd) (pn : Pn) (W : WX) (φ : List Addr) (L : LH) (H : Hp) (D : Ends) : RS → Prop
  | .nx sl L' => ∀ φ' σ' H', HR G φ' L' H' → Ext G φ L H φ' L' H' → RSl G pn φ' (Own G φ' L') H' sl σ' → D.nx σ' H'
  | .rt x L' => ∀ φ' v H', HR G φ' L' H' → Ext G φ L H φ' L' H' → RV G pn φ' (Own G φ' L') H' x v → D.rt v H'
  | .bk sl L' => ∀ φ' σ' H', HR G φ' L' H' → Ext G φ L H φ' L' H' → RSl G pn φ' (Own G φ' L') H' sl σ' → D.bk σ' H'
  | .ct sl L' => ∀ φ' σ' H', HR G φ' L' H' → Ext G φ L H φ' L' H' → RSl G pn φ' (Own G φ' L') H' sl σ' → D.ct σ' H'
  | .exc C fs sl L' => ∀ φ' σ' H', HR G φ' L' H' → Ext G φ L H φ' L' H' → RSl G pn φ' (Own G φ' L') H' sl σ' → WEx G W σ' C fs φ' L' H'
  | .stuck => False
section
variable {G : Gd} {pn : Pn} {W : WX} {φ φ1 : List Addr} {L L1 : LH} {H H1 : Hp} {D : Ends} {σ : L2.St} {sl : SL}
theorem FinS.ext {c : RS} (e : Ext G φ L H φ1 L1 H1) (h : FinS G pn W φ L H D c) : FinS G pn W φ1 L1 H1 D c := by
  cases c with
  | nx sl L' => exact fun φ' σ' H' a b c => h φ' σ' H' a (e.trans b) c
  | rt x L' => exact fun φ' v H' a b c => h φ' v H' a (e.trans b) c
  | bk sl L' => exact fun φ' σ' H' a b c => h φ' σ' H' a (e.trans b) c
  | ct sl L' => exact fun φ' σ' H' a b c => h φ' σ' H' a (e.trans b) c
  | exc C fs sl L' => exact fun φ' σ' H' a b c => h φ' σ' H' a (e.trans b) c
  | stuck => exact h
def rdS (G : Gd) (pn : Pn) (W : WX) (f : SL → LH → RS) : TS := fun D σ H => ∃ (φ : List Addr) (sl : SL) (L : LH), HR G φ L H ∧ RSl G pn φ (Own G φ L) H sl σ ∧ FinS G pn W φ L H D (f sl L)
/-- an expression within a statement -/
theorem stE {α β : Type} {Rel : List Addr → LH → Hp → α → β → Prop} {r : R α} {g : α → LH → RS} (hR : HR G φ L H) (hS : RSl G pn φ (Own G φ L) H sl σ) (h : FinS G pn W φ L H D (r.st sl g)) :
    Fin G Rel (WEx G W σ) φ L H (fun v H1 => ∃ (φ1 : List Addr) (L1 : LH) (x : α), HR G φ1 L1 H1 ∧ Ext G φ L H φ1 L1 H1 ∧ Rel φ1 L1 H1 x v ∧ RSl G pn φ1 (Own G φ1 L1) H1 sl σ ∧ FinS G pn W φ1 L1 H1 D (g x L1)) r := by
  cases r with
  | ok x L1 => exact fun φ' v H' h1 e1 r1 => ⟨φ', L1, x, h1, e1, r1, hS.go e1, h.ext e1⟩
  | exc C fs L1 => exact fun φ' H' h1 e1 => h φ' σ H' h1 e1 (hS.go e1)
  | stuck => exact h
/-- a statement, then more -/
theorem seqS {r : RS} {f : SL → LH → RS} (h : FinS G pn W φ L H D (r.thn f)) : FinS G pn W φ L H { D with nx := fun σ H => rdS G pn W f D σ H } r := by
  cases r with
  | nx sl L' => exact fun φ' σ' H' a b c => ⟨φ', sl, L', a, c, FinS.ext b h⟩
  | rt x L' => exact h
  | bk sl L' => exact h
  | ct sl L' => exact h
  | exc C fs sl L' => exact h
  | stuck => exact h
/-- a loop's turn -/
theorem turnS {r : RS} {f : SL → LH → RS} {N : L2.St → Hp → Prop} (hN : ∀ φ' sl' L' σ' H', HR G φ' L' H' → Ext G φ L H φ' L' H' → RSl G pn φ' (Own G φ' L') H' sl' σ' → FinS G pn W φ' L' H' D (f sl' L') → N σ' H') (h : FinS G pn W φ L H D (r.turn f)) :
    FinS G pn W φ L H { D with nx := N, ct := N, bk := D.nx } r := by
  cases r with
  | nx sl L' => exact fun φ' σ' H' a b c => hN φ' sl L' σ' H' a b c (FinS.ext b h)
  | rt x L' => exact h
  | bk sl L' => exact h
  | ct sl L' => exact fun φ' σ' H' a b c => hN φ' sl L' σ' H' a b c (FinS.ext b h)
  | exc C fs sl L' => exact h
  | stuck => exact h
theorem _root_.L2.PS.imp {X : Cx} {e : Stmt} {t t' : TS} (h : PS X e t) (k : ∀ D σ H, t' D σ H → t D σ H) : PS X e t' := ⟨fun pins s σ H D I q => h.run pins s σ H D I (k D σ H q)⟩
theorem _root_.L2.PSs.imp {X : Cx} {e : List Stmt} {t t' : TS} (h : PSs X e t) (k : ∀ D σ H, t' D σ H → t D σ H) : PSs X e t' := ⟨fun pins s σ H D I q => h.run pins s σ H D I (k D σ H q)⟩
variable {X : Cx} {c : Cl}
theorem ss_set {g : TG} {i : Nat} {f : SL → LH → R V2} {t : TE} (hg : g = gName i) (h : ∀ σ H Q, rdE G pn W f σ H Q → t σ H Q) (hq : rdS G pn W (fun sl L => (f sl L).st sl fun x L1 => .nx (sl.set i (some x)) L1) D σ H) : tAsg t g D σ H := by
  subst hg
  obtain ⟨φ, sl, L, hR, hS, hF⟩ := hq
  refine h σ H _ ⟨φ, sl, L, hR, hS, (stE (Rel := RelV2 G pn) hR hS hF).mono fun v H1 ⟨φ1, L1, x, hR1, e1, r1, hS1, hF1⟩ => ?_⟩
  exact hF1 φ1 _ H1 hR1 (Ext.refl _ _ _ _) (hS1.set i r1)
theorem sw_false {e t : Expr} {l : Nat} (h : notComp e = true) : swapsWith e (some t) l X.env = pure false := by
  cases e <;> first | exact ff h | rfl
theorem sw_none {e : Expr} {l : Nat} (h : notComp e = true) : swapsWith e none l X.env = pure false := by
  cases e <;> first | exact ff h | rfl
theorem snd_set {i : Nat} {y : Str} {p pos : Pos} {x : Expr} {e : IE} (hN : X.N.Nodup) (hi : X.N[i]? = some y) (hl : Loc X.env.scope y) (hf : X.fn y = true) (hc : notComp x = true) (he : PE X x (rdE G pn W (ev c e))) : PS X (.Assign [.Name y p] x pos) (rdS G pn W (exec c (.set i e))) :=
  (ps_set hN hi hl he (sw_false hc) (.inl hf)).imp fun D σ H q => ss_set rfl (fun _ _ _ z => z) (by simpa only [exec] using q)
theorem snd_ex {x : Expr} {e : IE} {pos : Pos} (hc : notComp x = true) (he : PE X x (rdE G pn W (ev c e))) : PS X (.Expr x pos) (rdS G pn W (exec c (.ex e))) :=
  (ps_expr he (sw_none hc)).imp fun D σ H ⟨φ, sl, L, hR, hS, hF⟩ => by
    simp only [exec] at hF
    exact ⟨φ, sl, L, hR, hS, (stE (Rel := RelV2 G pn) hR hS hF).mono fun v H1 ⟨φ1, L1, x, hR1, e1, r1, hS1, hF1⟩ => hF1 φ1 σ H1 hR1 (Ext.refl _ _ _ _) hS1⟩
theorem snd_ret {x : Expr} {e : IE} {pos : Pos} (he : PE X x (rdE G pn W (ev c e))) : PS X (.Return (some x) pos) (rdS G pn W (exec c (.ret (some e)))) :=
  (ps_ret he).imp fun D σ H ⟨φ, sl, L, hR, hS, hF⟩ => by
    simp only [exec] at hF
    exact ⟨φ, sl, L, hR, hS, (stE (Rel := RelV2 G pn) hR hS hF).mono fun v H1 ⟨φ1, L1, x, hR1, e1, r1, hS1, hF1⟩ => hF1 φ1 v H1 hR1 (Ext.refl _ _ _ _) r1⟩
theorem snd_retN {pos : Pos} : PS X (.Return none pos) (rdS G pn W (exec c (.ret none))) :=
  ps_retN.imp fun D σ H ⟨φ, sl, L, hR, hS, hF⟩ => by
    simp only [exec] at hF
    exact hF φ .non H hR (Ext.refl _ _ _ _) rfl
theorem snd_pass {pos : Pos} : PS X (.Pass pos) (rdS G pn W (exec c .pass)) :=
  ps_pass.imp fun D σ H ⟨φ, sl, L, hR, hS, hF⟩ => by
    simp only [exec] at hF
    exact hF φ σ H hR (Ext.refl _ _ _ _) hS
theorem snd_doc {z : Str} {j : Nat} {p pos : Pos} : PS X (.Expr (.Constant (.str z) j p) pos) (rdS G pn W (exec c .pass)) :=
  ps_doc.imp fun D σ H ⟨φ, sl, L, hR, hS, hF⟩ => by
    simp only [exec] at hF
    exact hF φ σ H hR (Ext.refl _ _ _ _) hS
theorem snd_brk {pos : Pos} : PS X (.Break pos) (rdS G pn W (exec c .brk)) :=
  ps_break.imp fun D σ H ⟨φ, sl, L, hR, hS, hF⟩ => by
    simp only [exec] at hF
    exact hF φ σ H hR (Ext.refl _ _ _ _) hS
theorem snd_cont {pos : Pos} : PS X (.Continue pos) (rdS G pn W (exec c .cont)) :=
  ps_continue.imp fun D σ H ⟨φ, sl, L, hR, hS, hF⟩ => by
    simp only [exec] at hF
    exact hF φ σ H hR (Ext.refl _ _ _ _) hS
theorem snd_ifS {t : IE} {a b : List IS} {x : Expr} {y z : List Stmt} {pos : Pos} (ht : PT X x (rdT G pn W (evt c t))) (ha : PSs X y (rdS G pn W (execs c a))) (hb : PSs X z (rdS G pn W (execs c b))) : PS X (.If x y z pos) (rdS G pn W (exec c (.ife t a b))) :=
  (ps_if ht ha hb).imp fun D σ H ⟨φ, sl, L, hR, hS, hF⟩ => by
    simp only [exec] at hF
    refine ⟨φ, sl, L, hR, hS, (stE (Rel := fun _ _ _ a b => a = b) hR hS hF).mono fun v H1 ⟨φ1, L1, k, hR1, e1, r1, hS1, hF1⟩ => ?_⟩
    subst r1
    cases k with
    | true => exact ⟨φ1, sl, L1, hR1, hS1, hF1⟩
    | false => exact ⟨φ1, sl, L1, hR1, hS1, hF1⟩
theorem snd_whl {t : IE} {b : List IS} {x : Expr} {y : List Stmt} {pos : Pos} (hp : PassesOwn (model X.prog X.w) X.A X.env X.xe) (ht : PT X x (rdT G pn W (evt c t))) (hb : PSs X y (rdS G pn W (execs c b))) : PS X (.While x y [] pos) (rdS G pn W (exec c (.whl t b))) :=
  (ps_while hp ht hb).imp fun D σ H ⟨φ, sl, L, hR, hS, hF⟩ => by
    simp only [exec] at hF
    refine ⟨fun m σ H => rdS G pn W (fun sl L => whlGo (fun s' L' => evt c t s' L') (fun s' L' => execs c b s' L') m sl L) D σ H, ⟨whlMost, φ, sl, L, hR, hS, hF⟩, ?_⟩
    rintro m σ2 H2 ⟨φ2, sl2, L2, hR2, hS2, hF2⟩
    cases m with
    | zero => exact hF2.elim
    | succ n =>
      simp only [whlGo] at hF2
      refine ⟨φ2, sl2, L2, hR2, hS2, (stE (Rel := fun _ _ _ a b => a = b) hR2 hS2 hF2).mono fun v H1 ⟨φ1, L1, k, hR1, e1, r1, hS1, hF1⟩ => ?_⟩
      subst r1
      cases k with
      | true => exact ⟨_, fun σ' H' q => ⟨n, Nat.lt_succ_self n, q⟩, φ1, sl2, L1, hR1, hS1, turnS (fun φ' sl' L' σ' H' a b c d => ⟨φ', sl', L', a, c, d⟩) hF1⟩
      | false => exact hF1 φ1 σ2 H1 hR1 (Ext.refl _ _ _ _) hS1
theorem snd_for (hK : X.K = G.K) (hN : X.N.Nodup) (hcalm : X.calm = true) (hhot : c.hot = false) {tg : ITg} {ik : IK} {it : List IE} {b : List IS} {t i : Expr} {y : List Stmt} {pos : Pos} (hp : PassesOwn (model X.prog X.w) X.A X.env X.xe) (hfn : ∀ y, X.fn y = true) (htg : tgB true X.env.scope X.N tg t = true) (hset : notSet i = true)
    (hi : L2.PI X t i (rdI G pn W ik (evs c it))) (hb : PSs X y (rdS G pn W (execs c b))) : PS X (.For t i y [] pos) (rdS G pn W (exec c (.for_ tg ik it b))) :=
  (ps_for hp hcalm hi (pg_tg hN (fun _ => hfn) (.inl hcalm) htg) hb (by intro x; cases i <;> first | exact ff hset | rfl)).imp fun D σ H ⟨φ, sl, L, hR, hS, hF⟩ => by
    simp only [exec, hhot, Bool.false_eq_true, if_false] at hF
    refine ⟨φ, sl, L, hR, hS, (stE (Rel := RelVs G pn) hR hS hF).mono fun vs H1 ⟨φ1, L1, xs, hR1, e1, r1, hS1, hF1⟩ => ?_⟩
    cases hit : itemsV ik xs L1 with
    | none => rw [hit] at hF1; exact hF1.elim
    | some ds =>
      rw [hit] at hF1
      refine ⟨φ1, L1, xs, ds, hR1, r1, hit, fun J hJ => ?_⟩
      let Pv : Nat → L2.St → Hp → Prop := fun j σ H => ∃ (φ : List Addr) (L : LH) (sl : SL), HR G φ L H ∧ Ext G φ1 L1 H1 φ L H ∧ RSl G pn φ (Own G φ L) H sl σ ∧ FinS G pn W φ L H D (forGo (fun s' L' => execs c b s' L') tg (srcOf ik xs) ds (ds.drop j) sl L)
      refine ⟨fun j m σ H => m = ds.length - j ∧ j ≤ ds.length ∧ Pv j σ H, ⟨ds.length, by simp, Nat.zero_le _, φ1, L1, sl, hR1, Ext.refl _ _ _ _, hS1, hF1⟩, ?_⟩
      rintro j m σ2 H2 ⟨rfl, hj, φ2, L2, sl2, g1, g2, g3, g4⟩
      by_cases hlt : j < ds.length
      · right
        obtain ⟨d, hd, hdrop⟩ := drop_at hlt
        rw [hdrop] at g4
        simp only [forGo] at g4
        by_cases hsrc : srcOk (srcOf ik xs) ds L2
        · rw [if_pos hsrc] at g4
          obtain ⟨hgo, hyld⟩ := (hJ G.B φ2 L2 H2 g1 g2.stp g2.pre hsrc).1 j d hd
          refine ⟨hgo, Pv (j + 1), fun σ' H' p' => ⟨ds.length - (j + 1), by omega, rfl, hlt, p'⟩, fun x H' y => ?_⟩
          obtain ⟨y1, y2, y3⟩ := hyld x H' y
          cases hst : store tg d sl2 with
          | none => rw [hst] at g4; exact g4.elim
          | some sl' =>
            rw [hst] at g4
            have hS2 : RSl G pn φ2 (Own G φ2 L2) H' sl2 σ2 := RSl.go y2 g3
            refine store_rel (G := G) (pn := pn) hK y3 ⟨hS2.1, fun i x _ => hS2.2 i x⟩ hst fun σ' hs1 hs2 hs3 => ⟨φ2, sl', L2, y1, hs1, ?_⟩
            exact turnS (fun φ' sl'' L' σ'' H'' a b c d => ⟨φ', L', sl'', a, (g2.trans y2).trans b, c, d⟩) (FinS.ext y2 g4)
        · rw [if_neg hsrc] at g4; exact g4.elim
      · left
        have ej : j = ds.length := by omega
        subst ej
        rw [List.drop_length] at g4
        simp only [forGo] at g4
        by_cases hsrc : srcOk (srcOf ik xs) ds L2
        · rw [if_pos hsrc] at g4
          exact ⟨(hJ G.B φ2 L2 H2 g1 g2.stp g2.pre hsrc).2, g4 φ2 σ2 H2 g1 (Ext.refl _ _ _ _) g3⟩
        · rw [if_neg hsrc] at g4; exact g4.elim
end
end PI

set_option maxRecDepth 100000
set_option maxHeartbeats 1000000
namespace PI
open PySem PySem.Spec PyProof.Rows L2
section
variable {G : Gd} {T : Tb} {P : Prog} {hot : Bool} {k : Nat} {pn : Pn} {W : WX} {X : Cx} {c : Cl} {D : Ends} {σ : L2.St} {H : Hp}
/-- o[i] = v, by values -/
def rdPut (G : Gd) (pn : Pn) : TSet := fun o i v H Q => ∃ (φ : List Addr) (L L' : LH) (x j : V2) (d : PI.D), HR G φ L H ∧ RV G pn φ (Own G φ L) H x o ∧ RV G pn φ (Own G φ L) H j i ∧ RD G (Own G φ L) H d v ∧ putV x j d L = some L' ∧ ∀ H', HR G φ L' H' → Ext G φ L H φ L' H' → Q H'
theorem ok_put : PSet X (rdPut G pn) := by
  intro pins s σ H o i v ov iv u Q I ro ri rv ⟨φ, L, L', x, j, d, hR, r1, r2, r3, e, hq⟩
  unfold putV at e
  split at e
  · rename_i n k hj
    split at e
    · rename_i xs hL
      obtain ⟨rfl, rfl⟩ := RV.int r2 hj
      obtain ⟨a, vs, rfl, ha, hH, rs⟩ := RV.own hR r1 hL
      split at e
      · rename_i m hm
        cases e
        refine set_list pins s σ H _ _ v ov iv u Q I ro ri rv ⟨a, vs, k, m, rfl, rfl, hH, by rw [← rs.len]; exact hm, ?_⟩
        obtain ⟨q1, q2⟩ := fin_put hR (ys := xs.set m d) (us := vs.set m v) hL ha (rs.set m r3)
        exact hq _ q1 q2
      · cases e
    · cases e
  · cases e
theorem snd_put {o i e : IE} {a b x : Expr} {q pos : Pos} (hc : notComp x = true) (hs : notSlice b = true) (he : PE X x (rdE G pn W (ev c e))) (ho : PE X a (rdE G pn W (ev c o))) (hi : PE X b (rdE G pn W (ev c i))) : PS X (.Assign [.Subscript a b q] x pos) (rdS G pn W (exec c (.put o i e))) := by
  have hg : PG X (.Subscript a b q) (gSub (rdE G pn W (ev c o)) (rdE G pn W (ev c i)) (rdPut G pn)) := pg_sub ho hi ok_put (by intro v; cases b <;> first | exact ff hs | rfl)
  refine (ps_asg (pos := pos) he hg (show swapsWith x (some (.Subscript a b q)) pos.line X.env = pure false from sw_false hc) (by cases x <;> rfl)).imp fun D σ H ⟨φ, sl, L, hR, hS, hF⟩ => ?_
  simp only [exec] at hF
  refine ⟨φ, sl, L, hR, hS, (stE (Rel := RelV2 G pn) hR hS hF).mono fun v H1 ⟨φ1, L1, y, hR1, e1, r1, hS1, hF1⟩ => ?_⟩
  refine ⟨φ1, sl, L1, hR1, hS1, (stE (Rel := RelV2 G pn) hR1 hS1 hF1).mono fun ov H2 ⟨φ2, L2, z, hR2, e2, r2, hS2, hF2⟩ => ?_⟩
  refine ⟨φ2, sl, L2, hR2, hS2, (stE (Rel := RelV2 G pn) hR2 hS2 hF2).mono fun iv H3 ⟨φ3, L3, w, hR3, e3, r3, hS3, hF3⟩ => ?_⟩
  cases y with
  | ref n => exact hF3.elim
  | exn C fs => exact hF3.elim
  | val d =>
    simp only at hF3
    cases hp : putV z w d L3 with
    | none => rw [hp] at hF3; exact hF3.elim
    | some L4 =>
      rw [hp] at hF3
      exact ⟨φ3, L3, L4, z, w, d, hR3, RV.go e3 r2, r3, RV.go (x := .val d) e3 (RV.go (x := .val d) e2 r1), hp, fun H4 h4 e4 => hF3 φ3 σ H4 h4 e4 (hS3.go e4)⟩
theorem snd_unp (hN : X.N.Nodup) (hK : X.K = G.K) (hcalm : c.hot = false → X.calm = true) {is : List Nat} {e : IE} {t x : Expr} {pos : Pos} (hfn : ∀ y, X.fn y = true) (htg : tgB true X.env.scope X.N (.tp is) t = true) (hc : notComp x = true) (ht : notTup x = true) (he : PE X x (rdE G pn W (ev c e))) : PS X (.Assign [t] x pos) (rdS G pn W (exec c (.unp is e))) := by
  cases hh : c.hot with
  | true => exact ⟨fun pins s σ H D I ⟨φ, sl, L, hR, hS, hF⟩ => by simp [exec, hh, FinS] at hF⟩
  | false =>
    have hw : swappedStores [t] x X.env = pure none := by
      cases t <;> first | rfl | skip
      · cases x <;> first | exact ff ht | rfl
      · cases x <;> first | exact ff ht | rfl
    have h1 : (assignEach [t] X.env).map (·.2) = [assign t X.env] := by cases t <;> first | rfl | exact ff htg
    refine (ps_asg (pos := pos) he (pg_tg hN (fun _ => hfn) (.inl (hcalm hh)) htg) (show swapsWith x (some t) pos.line X.env = pure false from sw_false hc) hw h1).imp fun D σ H ⟨φ, sl, L, hR, hS, hF⟩ => ?_
    simp only [exec, hh, Bool.false_eq_true, if_false] at hF
    refine ⟨φ, sl, L, hR, hS, (stE (Rel := RelV2 G pn) hR hS hF).mono fun v H1 ⟨φ1, L1, y, hR1, e1, r1, hS1, hF1⟩ => ?_⟩
    cases y with
    | ref n => exact hF1.elim
    | exn C fs => exact hF1.elim
    | val d =>
      cases hst : unpV is (.val d) sl with
      | none => rw [hst] at hF1; exact hF1.elim
      | some sl' =>
        rw [hst] at hF1
        exact store_rel (G := G) (pn := pn) (t := .tp is) hK r1 ⟨hS1.1, fun i x _ => hS1.2 i x⟩ hst fun σ' q1 q2 q3 => hF1 φ1 σ' H1 hR1 (Ext.refl _ _ _ _) q1
/-- the ghost -/
theorem snd_frz {i : Nat} {r : List IS} {xs : List Stmt} (h : PSs X xs (rdS G pn W (execs c r))) : PSs X xs (rdS G pn W (execs c (.frz i :: r))) := by
  refine h.imp fun D σ H ⟨φ, sl, L, hR, hS, hF⟩ => ?_
  simp only [execs, exec] at hF
  unfold frzSlot at hF
  split at hF
  · rename_i n hs
    split at hF
    · rename_i xs hL
      obtain ⟨q1, q2, q3⟩ := hR.kill hL (by intro z; cases z)
      simp only [RS.thn_nx] at hF
      refine ⟨φ, _, _, q1, ⟨by simp [hS.1], fun j y hy => ?_⟩, FinS.ext q2 hF⟩
      rw [List.getElem?_map] at hy
      cases hj : sl[j]? with
      | none => rw [hj] at hy; cases hy
      | some o =>
        rw [hj] at hy
        have old : ∀ z, o = some z → y = z → ∃ v, σ[j]? = some (some v) ∧ RV G pn φ (Own G φ (L.set n .dead)) H y v := fun z hz hyz => by
          subst hz hyz
          obtain ⟨v, v1, v2⟩ := hS.2 j y hj
          exact ⟨v, v1, RV.go q2 v2⟩
        cases o with
        | none => cases hy
        | some z =>
          cases z with
          | val d => cases hy; exact old _ rfl rfl
          | exn C fs => cases hy; exact old _ rfl rfl
          | ref m =>
            simp only [Option.map_some] at hy
            by_cases hm : m = n
            · subst hm
              rw [if_pos rfl] at hy
              cases hy
              obtain ⟨v, v1, v2⟩ := hS.2 j (.ref m) hj
              obtain ⟨a, vs, rfl, ha, hH, rs⟩ := RV.own hR v2 hL
              exact ⟨_, v1, a, vs, rfl, ⟨.inl hH, q3 a ha⟩, RDs.go q2.stp _ _ rs⟩
            · rw [if_neg hm] at hy
              cases hy
              exact old _ rfl rfl
    · exact hF.elim
  · exact hF.elim
end
end PI

set_option maxRecDepth 100000
set_option maxHeartbeats 1000000
namespace PI
open PySem PySem.Spec PyProof.Rows L2
section
variable {G : Gd} {T : Tb} {P : Prog} {hot : Bool} {k : Nat} {pn : Pn} {W : WX} {X : Cx}
theorem comp_shape {ir : IE} {sc : Scope} {N : List Str} {e : Expr} {gs : List Comprehension} {scope : Scope} {p : Pos} (h : okE T ir sc N (.ListComp e gs scope p) = true) : ∃ own elt tg k it ts, ir = .comp own elt tg k it ts := by
  cases ir <;> first | exact ff h | exact ⟨_, _, _, _, _, _, rfl⟩
/-- name = [..] -/
theorem snd_setC (A : Am G T P hot k pn W X) {i : Nat} {y : Str} {py spos : Pos} {ir : IE} {e : Expr} {gs : List Comprehension} {scope : Scope} {p : Pos} (hi : X.N[i]? = some y) (hl : X.env.scope.names.lookup y = some .local) (h : okE T ir X.env.scope X.N (.ListComp e gs scope p) = true) (hc : compB (.Name y py) (.ListComp e gs scope p) = true) :
    PS X (.Assign [.Name y py] (.ListComp e gs scope p) spos) (rdS G pn W (exec (cl P hot k) (.set i ir))) := by
  obtain ⟨own, elt, tg, ik, it, ts, rfl⟩ := comp_shape h
  obtain ⟨e', t, i', ifs, scope', p', xs, he, h1, h2, h3, h4, h5, h6, h7, h8, h9⟩ := okE_comp h
  injection he with e1 e2 e3 e4
  subst e1 e2 e3 e4
  cases hh : hot with
  | true => exact ⟨fun pins s σ H D I ⟨φ, sl, L, hR, hS, hF⟩ => by simp [exec, ev, cl, FinS] at hF⟩
  | false =>
    have hp : pn = [] := A.pn0 hh
    subst hp
    have hw : L2.PI X t i' (rdI G [] W ik (evs (cl P hot k) it)) := walk_of A h3 h4 (sndEs it A h4) (sndH it A)
    have ht := fun (B : Addr → Prop) (s : Shared) (H : Hp) (C : Addr) (cl' : List (Str × Addr)) (fp : List Addr) => sndTs ts (A.blk hh B s H scope C cl' fp) h5 h6
    have hee := fun (B : Addr → Prop) (s : Shared) (H : Hp) (C : Addr) (cl' : List (Str × Addr)) (fp : List Addr) => (sndE elt (A.blk hh B s H scope C cl' fp) h7).1
    subst hh
    refine ⟨fun pins s σ H D I hq => (set_comp A.hK (A.calm rfl) A.nd (n := i) (own := own) rfl hi hl (sw_true I.ok.kind hl (a1 hc) (nt (a2 hc))) hw h1 h2 h8 ht hee).run pins s σ H D I ?_⟩
    exact ss_set rfl (fun σ H Q q => comp_rd (own := own) A.hK rfl q) (by simpa only [exec] using hq)
theorem snd_hotF {c : Cl} {tg : ITg} {ik : IK} {it : List IE} {b : List IS} {x : Stmt} (h : c.hot = true) : PS X x (rdS G pn W (exec c (.for_ tg ik it b))) :=
  ⟨fun pins s σ H D I ⟨φ, sl, L, hR, hS, hF⟩ => by simp [exec, h, FinS] at hF⟩
end
variable {T : Tb} {P : Prog} {hot : Bool} {k : Nat}
mutual
theorem sndS : ∀ (is : IS) {G : Gd} {pn : Pn} {W : WX} {X : Cx} (A : Am G T P hot k pn W X) (po : PassesOwn (model X.prog X.w) X.A X.env X.xe) (fT : ∀ y, X.fn y = true) {x : Stmt}, okS T is X.env.scope X.N x = true → PS X x (rdS G pn W (exec (cl P hot k) is))
  | .set i e, G, pn, W, X, A, po, fT, x, h => by
    cases x <;> first | exact ff h | skip
    rename_i ts v pos
    match ts, h with
    | [], h => exact ff h
    | _ :: _ :: _, h => exact ff h
    | [t], h =>
      have hn := a1 (a1 h)
      have he := a2 (a1 h)
      have hc := a2 h
      cases t <;> first | exact ff hn | skip
      rename_i y py
      obtain ⟨e1, e2⟩ := nm_ok hn
      by_cases hcc : notComp v = true
      · exact snd_set A.nd e1 (e2.imp id fun z => z.2) (fT y) hcc (sndE e A he).1
      · rw [Bool.or_eq_true] at hc
        have hc := hc.resolve_left hcc
        have hl := (nm_ok (a2 hc)).2.resolve_right fun z => by cases z.1
        have hc := a1 hc
        cases v <;> first | exact ff hc | skip
        exact snd_setC A e1 hl he hc
  | .unp is e, G, pn, W, X, A, po, fT, x, h => by
    cases x <;> first | exact ff h | skip
    rename_i ts v pos
    match ts, h with
    | [], h => exact ff h
    | _ :: _ :: _, h => exact ff h
    | [t], h => exact snd_unp A.nd A.hK A.calm fT (a1 (a1 (a1 h))) (a2 (a1 h)) (a2 h) (sndE e A (a2 (a1 (a1 h)))).1
  | .put o i e, G, pn, W, X, A, po, fT, x, h => by
    cases x <;> first | exact ff h | skip
    rename_i ts v pos
    cases ts with
    | nil => exact ff h
    | cons t r =>
      cases r with
      | cons _ _ => cases t <;> exact ff h
      | nil =>
        cases t <;> first | exact ff h | skip
        exact snd_put (a2 (a1 h)) (a2 h) (sndE e A (a1 (a1 (a1 (a1 h))))).1 (sndE o A (a2 (a1 (a1 (a1 h))))).1 (sndE i A (a2 (a1 (a1 h)))).1
  | .ex e, G, pn, W, X, A, po, fT, x, h => by
    cases x <;> first | exact ff h | skip
    exact snd_ex (a2 h) (sndE e A (a1 h)).1
  | .ret none, G, pn, W, X, A, po, fT, x, h => by
    cases x <;> first | exact ff h | skip
    rename_i v pos
    cases v with
    | none => exact snd_retN
    | some _ => exact ff h
  | .ret (some e), G, pn, W, X, A, po, fT, x, h => by
    cases x <;> first | exact ff h | skip
    rename_i v pos
    cases v with
    | none => exact ff h
    | some _ => exact snd_ret (sndE e A h).1
  | .ife t a b, G, pn, W, X, A, po, fT, x, h => by
    cases x <;> first | exact ff h | skip
    exact snd_ifS (sndE t A (a1 (a1 h))).2 (sndB a A po fT (a2 (a1 h))) (sndB b A po fT (a2 h))
  | .for_ tg ik it b, G, pn, W, X, A, po, fT, x, h => by
    cases x <;> first | exact ff h | skip
    rename_i t i body els pos
    cases els with
    | cons _ _ => exact ff h
    | nil =>
      cases hh : hot with
      | true => exact snd_hotF rfl
      | false =>
        have h3 := a2 (a1 (a1 h))
        cases hit : itArgs T X.env.scope ik i with
        | none => rw [hit] at h3; exact ff h3
        | some xs =>
          rw [hit] at h3
          have hb := sndB b A po fT (a2 (a1 h))
          have hw : L2.PI X t i (rdI G pn W ik (evs (cl P hot k) it)) := walk_of A hit h3 (sndEs it A h3) (sndH it A)
          subst hh
          exact snd_for A.hK A.nd (A.calm rfl) rfl po fT (a1 (a1 (a1 h))) (a2 h) hw hb
  | .whl t b, G, pn, W, X, A, po, fT, x, h => by
    cases x <;> first | exact ff h | skip
    rename_i t' body els pos
    cases els with
    | cons _ _ => exact ff h
    | nil => exact snd_whl po (sndE t A (a1 h)).2 (sndB b A po fT (a2 h))
  | .pass, G, pn, W, X, A, po, fT, x, h => by
    cases x <;> first | exact ff h | skip
    · rename_i e pos
      cases e <;> first | exact ff h | skip
      rename_i k j p
      cases k <;> first | exact ff h | exact snd_doc
    · exact snd_pass
  | .brk, G, pn, W, X, A, po, fT, x, h => by
    cases x <;> first | exact ff h | exact snd_brk
  | .cont, G, pn, W, X, A, po, fT, x, h => by
    cases x <;> first | exact ff h | exact snd_cont
  | .aug i op e, G, pn, W, X, A, po, fT, x, h => by
    cases x <;> exact ff h
  | .frz i, G, pn, W, X, A, po, fT, x, h => by
    cases x <;> exact ff h
theorem sndB : ∀ (is : List IS) {G : Gd} {pn : Pn} {W : WX} {X : Cx} (A : Am G T P hot k pn W X) (po : PassesOwn (model X.prog X.w) X.A X.env X.xe) (fT : ∀ y, X.fn y = true) {xs : List Stmt}, okB T is X.env.scope X.N xs = true → PSs X xs (rdS G pn W (execs (cl P hot k) is))
  | [], G, pn, W, X, A, po, fT, [], h => pss_nil.imp fun D σ H ⟨φ, sl, L, hR, hS, hF⟩ => by
    simp only [execs] at hF
    exact hF φ σ H hR (Ext.refl _ _ _ _) hS
  | [], G, pn, W, X, A, po, fT, _ :: _, h => ff h
  | s :: r, G, pn, W, X, A, po, fT, xs, h => by
    have go : ∀ x ys, xs = x :: ys → okS T s X.env.scope X.N x = true → okB T r X.env.scope X.N ys = true → PSs X xs (rdS G pn W (execs (cl P hot k) (s :: r))) := fun x ys hx h1 h2 => by
      subst hx
      refine (pss_cons (sndS s A po fT h1) (sndB r A po fT h2)).imp fun D σ H ⟨φ, sl, L, hR, hS, hF⟩ => ?_
      simp only [execs] at hF
      exact ⟨φ, sl, L, hR, hS, seqS hF⟩
    cases s with
    | frz i => exact snd_frz (sndB r A po fT h)
    | aug i op e =>
      cases xs with
      | nil => exact ff h
      | cons x ys => exact ff (by cases x <;> simp [okB, okS] at h)
    | _ =>
      cases xs with
      | nil => exact ff h
      | cons x ys => exact go x ys rfl (a1 h) (a2 h)
end
end PI

set_option maxRecDepth 100000
set_option maxHeartbeats 1000000
namespace PI
open PySem PySem.Spec PyProof.Rows L2

section
variable {G : Gd} {φ : List Addr} {L : LH} {H : Hp}
/-- the answer's object stays, a def's others go -/
theorem HR.keep1 (h : HR G φ L H) {n n0 : Nat} {o : LO} {a : Addr} (ho : L[n]? = some o) (hd : o ≠ .dead) (ha : φ[n]? = some a) (hn : n0 ≤ n) (hl : n0 ≤ L.length) :
    HR G (φ.take n0 ++ [a]) (L.take n0 ++ [o]) H ∧ Stp (Own G φ L) H (Own G (φ.take n0 ++ [a]) (L.take n0 ++ [o])) H ∧ (φ.take n0 ++ [a])[n0]? = some a := by
  have lt : (L.take n0).length = n0 := by rw [List.length_take]; omega
  have lp : (φ.take n0).length = n0 := by rw [List.length_take, h.len]; omega
  have old : ∀ {i : Nat} {u : LO} {b : Addr}, (L.take n0 ++ [o])[i]? = some u → (φ.take n0 ++ [a])[i]? = some b → (i < n0 ∧ L[i]? = some u ∧ φ[i]? = some b) ∨ (i = n0 ∧ u = o ∧ b = a) := fun {i u b} e1 e3 => by
    by_cases hi : i < n0
    · rw [List.getElem?_append_left (by omega), List.getElem?_take_of_lt hi] at e1
      rw [List.getElem?_append_left (by omega), List.getElem?_take_of_lt hi] at e3
      exact .inl ⟨hi, e1, e3⟩
    · rw [List.getElem?_append_right (by omega), lt] at e1
      rw [List.getElem?_append_right (by omega), lp] at e3
      have hi' : i - n0 = 0 := by
        have := (List.getElem?_eq_some_iff.mp e1).1
        simp at this
        omega
      rw [hi'] at e1 e3
      simp at e1 e3
      exact .inr ⟨by omega, e1.symm, e3.symm⟩
  have ow : ∀ b, OwnL (φ.take n0 ++ [a]) (L.take n0 ++ [o]) b → OwnL φ L b := fun b ⟨i, u, q1, q2, q3⟩ => by
    rcases old q1 q3 with ⟨_, p1, p2⟩ | ⟨_, rfl, rfl⟩
    · exact ⟨i, u, p1, q2, p2⟩
    · exact ⟨n, u, ho, hd, ha⟩
  have s : Stp (Own G φ L) H (Own G (φ.take n0 ++ [a]) (L.take n0 ++ [o])) H := ⟨fun _ _ e _ => e, fun b z => .inl (z.imp (ow b) id)⟩
  refine ⟨⟨by simp [lt, lp], fun i u b e1 e2 => ?_, fun i j u w b e1 d1 e2 d2 e3 e4 => ?_, fun b z => ⟨(h.res b z).1, fun q => (h.res b z).2 (ow b q)⟩⟩, s, by rw [List.getElem?_append_right (by omega), lp]; simp⟩
  · rcases old e1 e2 with ⟨_, p1, p2⟩ | ⟨_, rfl, rfl⟩
    · exact RO.go' s rfl (h.at_ i u b p1 p2)
    · exact RO.go' s rfl (h.at_ n u b ho ha)
  · rcases old e1 e3 with ⟨p0, p1, p2⟩ | ⟨p1, rfl, rfl⟩
    · rcases old e2 e4 with ⟨q0, q1, q2⟩ | ⟨q1, rfl, rfl⟩
      · exact h.inj i j u w b p1 d1 q1 d2 p2 q2
      · have := h.inj i n u w b p1 d1 ho hd p2 ha
        omega
    · rcases old e2 e4 with ⟨q0, q1, q2⟩ | ⟨q1, _, _⟩
      · have := h.inj n j u w b ho hd q1 d2 ha q2
        omega
      · omega
theorem RXe.go {O O1 : Addr → Prop} {H1 : Hp} (s : Stp O H O1 H1) {C : Nat} {fs : List (Nat × D)} {cls : Value} {d : Option Addr} (h : RXe G O H C fs cls d) : RXe G O1 H1 C fs cls d := by
  obtain ⟨h1, h2⟩ := h
  refine ⟨h1, ?_⟩
  rcases h2 with ⟨dd, gs, e, ⟨t, n⟩, r⟩ | h2
  · exact .inl ⟨dd, gs, e, ⟨s.keep dd _ t n, s.no t n⟩, RDf.go s fs gs r⟩
  · exact .inr h2
/-- a def's end -/
theorem fin_body {pn : Pn} {E : XK} {Q : VK} {r : RS} (hR : HR G φ L H) (h : Fin G (RelV2 G pn) (WCx G E) φ L H Q (r.fin L.length)) : FinS G pn (fun cls d _ H => E cls d H) φ L H { nx := fun _ H' => Q .non H', rt := Q } r := by
  have tr : ∀ {φ' : List Addr} {L' : LH} {H' : Hp}, HR G φ' L' H' → Ext G φ L H φ' L' H' → HR G (φ'.take L.length) (L'.take L.length) H' ∧ Ext G φ L H (φ'.take L.length) (L'.take L.length) H' ∧ Stp (Own G φ' L') H' (Own G (φ'.take L.length) (L'.take L.length)) H' := fun {φ' L' H'} h1 e1 => by
    obtain ⟨t1, t2⟩ := h1.trunc L.length
    exact ⟨t1, ⟨e1.stp.trans t2, take_pre (List.prefix_refl _) e1.pre hR.len, e1.held⟩, t2⟩
  cases r with
  | nx sl L' =>
    intro φ' σ' H' h1 e1 r1
    obtain ⟨t1, t2, t3⟩ := tr h1 e1
    exact h _ .non H' t1 t2 rfl
  | bk sl L' => exact h.elim
  | ct sl L' => exact h.elim
  | stuck => exact h.elim
  | exc C fs sl L' =>
    intro φ' σ' H' h1 e1 r1 cls d rx
    obtain ⟨t1, t2, t3⟩ := tr h1 e1
    exact h _ H' t1 t2 cls d (rx.go t3)
  | rt x L' =>
    intro φ' v H' h1 e1 r1
    obtain ⟨t1, t2, t3⟩ := tr h1 e1
    cases x with
    | val d => exact h _ v H' t1 t2 (RD.go t3 d v r1)
    | exn C fs => exact h.elim
    | ref n =>
      obtain ⟨a, rfl, ha⟩ := r1
      simp only [RS.fin, retV] at h
      by_cases hn : n < L.length
      · rw [if_pos hn] at h
        exact h _ _ H' t1 t2 ⟨a, rfl, by rw [List.getElem?_take_of_lt hn]; exact ha⟩
      · rw [if_neg hn] at h
        cases ho : L'[n]? with
        | none => rw [ho] at h; exact h.elim
        | some o =>
          rw [ho] at h
          by_cases hd : o = .dead
          · subst hd; exact h.elim
          · have hl' : L.length ≤ L'.length := by
              have := e1.pre.length_le
              rw [hR.len, h1.len] at this
              exact this
            obtain ⟨k1, k2, k3⟩ := h1.keep1 ho hd ha (by omega) hl'
            have h : Fin G (RelV2 G pn) (WCx G E) φ L H Q (.ok (.ref L.length) (L'.take L.length ++ [o])) := by
              cases o <;> first | exact absurd rfl hd | exact h
            exact h _ _ H' k1 ⟨e1.stp.trans k2, (take_pre (List.prefix_refl _) e1.pre hR.len).trans (List.prefix_append _ _), e1.held⟩ ⟨a, rfl, k3⟩
end

theorem rvs_at {G : Gd} {pn : Pn} {φ : List Addr} {O : Addr → Prop} {H : Hp} : ∀ {xs : List V2} {vs : List V}, RVs G pn φ O H xs vs → ∀ {i : Nat} {x : V2} {v : V}, xs[i]? = some x → vs[i]? = some v → RV G pn φ O H x v
  | [], _, _, i, x, v, h, _ => by simp at h
  | y :: xs, vs, h, i, x, v, h1, h2 => by
    obtain ⟨w, q, rfl, a, b⟩ := h
    cases i with
    | zero => cases h1; cases h2; exact a
    | succ i => exact rvs_at b (i := i) (by simpa using h1) (by simpa using h2)
section
variable {G : Gd} {T : Tb} {Pg : Prog} {P : Program} {w : World} {mg : Str → Option Value} {base : Heap} {k fi : Nat} {N ps : List Str} {F : Fn}
/-- the names' values at the entry -/
theorem rsl_start {pn : Pn} {φ : List Addr} {O : Addr → Prop} {H : Hp} {xs : List V2} {vs : List V} (hN : N.length = F.slots) (r : RVs G pn φ O H xs vs) : RSl G pn φ O H (xs.map some ++ List.replicate (F.slots - xs.length) none) (L2.start N vs) := by
  have hl : vs.length = xs.length := RVs.len r
  unfold L2.start
  refine ⟨by simp [hl, hN], fun i y hy => ?_⟩
  by_cases hi : i < xs.length
  · rw [List.getElem?_append_left (by simpa using hi), List.getElem?_map] at hy
    have hv : i < vs.length := by omega
    rw [List.getElem?_append_left (by simpa using hv), List.getElem?_map, List.getElem?_eq_getElem hv]
    rw [List.getElem?_eq_getElem hi] at hy
    obtain rfl : xs[i] = y := by simpa using hy
    exact ⟨vs[i], rfl, rvs_at r (List.getElem?_eq_getElem hi) (List.getElem?_eq_getElem hv)⟩
  · rw [List.getElem?_append_right (by simpa using hi), List.getElem?_replicate] at hy
    split at hy <;> cases hy
/-- what is wanted, as a promise of the layer -/
def spG (G : Gd) (pn : Option (Addr × Obj)) (n : Nat) (c : List V2 → LH → R V2) : Sp := fun vs H Q E => vs.length = n ∧ ∃ (B : Addr → Prop) (φ : List Addr) (L : LH) (xs : List V2), HR (G.at B) φ L H ∧ RVs (G.at B) pn.toList φ (Own (G.at B) φ L) H xs vs ∧ Fin (G.at B) (RelV2 (G.at B) pn.toList) (WCx (G.at B) E) φ L H Q (c xs L)
/-- the body's reading -/
theorem body_of {X : Cx} {hot : Bool} {pn : Pn} {B : Addr → Prop} {H : Hp} {vs : List V} {xs : List V2} {φ : List Addr} {L : LH} {Q : VK} {E : XK} {body : List Stmt} (A : Am (G.at B) T Pg hot k pn (fun cls d _ H => E cls d H) X) (po : PassesOwn (model X.prog X.w) X.A X.env X.xe) (fT : ∀ y, X.fn y = true)
    (hF : Pg.fn fi = some F) (hps : vs.length = F.norm.length + F.kwo.length) (hN : N.length = F.slots) (hX : X.N = N) (hb : okB T F.body X.env.scope X.N body = true) (hR : HR (G.at B) φ L H) (r : RVs (G.at B) pn φ (Own (G.at B) φ L) H xs vs)
    (f : Fin (G.at B) (RelV2 (G.at B) pn) (WCx (G.at B) E) φ L H Q (call Pg hot (k + 1) fi xs L)) : ∃ t, PSs X body t ∧ t { nx := fun _ H' => Q .non H', rt := Q } (L2.start N vs) H := by
  refine ⟨_, sndB F.body A po fT hb, φ, _, L, hR, rsl_start hN r, fin_body hR ?_⟩
  simp only [call, hF, runF] at f
  rw [if_pos (by rw [← RVs.len r]; exact hps)] at f
  exact f
theorem fnG_of {hot : Bool} {f : Addr} {name qual : Str} {params : Arguments} {body : List Stmt} {scope : Scope} {dV kV doc pm cdv ct oc : Value} {an od : Option Addr} {osl : Array (Option Value)}
    (lk : G.K.lookup f = some ⟨oc, od, .func (PySem.W.fnOf name qual params body scope dV kV doc pm an cdv ct), osl⟩) (hcd : PySem.W.codeIn G.K cdv qual = true) (S : FnScope N ps scope)
    (hF : Pg.fn fi = some F) (hps : ps.length = F.norm.length + F.kwo.length) (hN : N.length = F.slots) (hb : okB T F.body scope N body = true) (ft : Ft G T Pg mg) (fns : FnsOk G T Pg P w mg base hot k) :
    FnG G P w mg base hot (k + 1) f (PySem.W.fnOf name qual params body scope dV kV doc pm an cdv ct) ps (call Pg hot (k + 1) fi) := by
  have ft' : ∀ B : Addr → Prop, Ft (G.at B) T Pg mg := fun B => ⟨ft.nm, ft.free, ft.glob, ft.kit, ft.own, ft.cls, ft.fns⟩
  have fns' : ∀ B : Addr → Prop, FnsOk (G.at B) T Pg P w mg base hot k := fun B f' hf' fA e => let ⟨fd, ps, b, g⟩ := fns f' hf' fA e; ⟨fd, ps, b, ⟨g.run⟩⟩
  cases hot with
  | false =>
    have Fo : FnOk P w G.K mg base (L2.CX P w) (k + 1) f (PySem.W.fnOf name qual params body scope dV kV doc pm an cdv ct) ps (spG G none ps.length (call Pg false (k + 1) fi)) := by
      refine L2.fn_of lk hcd S (fun vs H Q E q => q.1) fun A outer s H vs Q E hr ⟨hl, B, φ, L, xs, hR, r, hf⟩ => ?_
      refine body_of (hot := false) (B := B) (E := E) (xs := xs) (fi := fi) (F := F) (N := N) ⟨rfl, ft' B, fns' B, L2H.roomH_of hr, fun _ => rfl, fun _ => rfl, (fun z => by cases z), (fun p hp => by cases hp), takes_of rfl rfl rfl rfl, S.nd⟩ (passes_of rfl) (fun _ => rfl) hF (hl.trans hps) hN rfl hb hR r hf
    refine ⟨fun B pn A outer s H args us vs xs φ L Q E hr hcalm _ hpin e0 hbind r hl hR hxs hFin => ?_⟩
    obtain ⟨h1, rfl⟩ := hcalm rfl
    exact Fo.run A outer s H args us vs Q E ⟨h1, hr.dp, hr.un⟩ e0 hbind r ⟨hl, B, φ, L, xs, hR, hxs, hFin⟩
  | true =>
    refine ⟨fun B pn A outer s H args us vs xs φ L Q E hr _ hhot hpin e0 hbind r hl hR hxs hFin => ?_⟩
    obtain ⟨p, rfl, hp⟩ := hhot rfl
    have inK := e0.mod.kin.keeps fun b o q => (e0.bs b o q).1
    have none_ := e0.mod.nolimit.keeps fun b o q => (e0.bs b o q).1
    have kinds : ∀ z ∈ ps.zip us, scope.names.lookup z.1 = some .local ∨ (scope.names.lookup z.1 = some .cell ∧ ((cellsFrom (s.heap.objs.size + 1) scope.names []).lookup z.1).isSome = true) := fun z hz =>
      (S.par z.1 (List.of_mem_zip (a := z.1) (b := z.2) hz).1).imp id fun q => ⟨q, PySem.W.cellsFrom_some _ _ _ (.inl q)⟩
    refine codeAny_call_function hr.depth (inK _ _ lk) rfl S.co S.gen rfl (PySem.W.codeRec_of inK hcd) (hbind _ _ _ _ (wpAny_newFunctionEnv_cells S.kind kinds fun v hv s1 y => ?_))
    subst hv
    refine ⟨none_.keeps y.toInCall.keep, codeAny_func ?_⟩
    have I := L2H.inv_startH (CX := L2.CX P w) (E := E) S (hpin p (List.mem_singleton.mpr rfl)) e0 hl r y
    obtain ⟨t, h1, h2⟩ := body_of (X := L2H.cxH (L2.CX P w) P w G.K mg base N qual scope f cdv A outer s H E p) (hot := true) (B := B) (E := E) (pn := [p]) (fi := fi) (F := F) (N := N)
      ⟨rfl, ft' B, fns' B, hr.deeper _, (fun z => by cases z), (fun z => by cases z), fun _ => ⟨p, rfl, hp⟩, fun q hq => hq, takes_of rfl rfl rfl rfl, S.nd⟩ (passes_of rfl) (fun _ => rfl) hF (hl.trans hps) hN rfl hb hR hxs hFin
    refine wpAny_mono (h1.run [] s1 _ H _ I h2) (fun fl s2 q => ?_) fun _ _ q => q
    have done : ∀ {σ2 : L2.St} {H2 : Hp} {v : V} {u : Value}, Inv (L2H.cxH (L2.CX P w) P w G.K mg base N qual scope f cdv A outer s H E p) [] σ2 H2 s2 → RelV v u → Q v H2 → CE outer P w H s Q u s2 := fun J a b => ⟨_, _, J.os, J.bare, J.base, J.hok, a, b⟩
    cases fl with
    | next =>
      obtain ⟨_, _, J, q⟩ := q
      exact done (u := Value.none) (v := V.non) J rfl q
    | ret u =>
      obtain ⟨_, _, _, J, a, b⟩ := q
      exact done J a b
    | _ =>
      obtain ⟨_, _, _, q⟩ := q
      exact q.elim
end
end PI

set_option maxRecDepth 100000
set_option maxHeartbeats 1000000
namespace PI
open PySem PySem.Spec PyProof.Rows L2
theorem look_none {α : Type} {x : Str} : ∀ {l : List (Str × α)}, x ∉ l.map (·.1) → (l.lookup x).isSome = false
  | [], _ => rfl
  | (y, v) :: r, h => by
    simp only [List.map_cons, List.mem_cons, not_or] at h
    rw [List.lookup_cons, show (x == y) = false from beq_eq_false_iff_ne.mpr h.1]
    exact look_none h.2
theorem look_some {α : Type} {x : Str} : ∀ {l : List (Str × α)}, x ∈ l.map (·.1) → ∃ v, l.lookup x = some v
  | [], h => by cases h
  | (y, v) :: r, h => by
    rw [List.lookup_cons]
    by_cases e : x = y
    · subst e
      rw [show (x == x) = true from beq_iff_eq.mpr rfl]
      exact ⟨v, rfl⟩
    · rw [show (x == y) = false from beq_eq_false_iff_ne.mpr e]
      exact look_some ((List.mem_cons.mp h).resolve_left e)
theorem kwLoop {normal kwonly : List Str} {f : Str × Value → List (Str × Value) × List (Str × Value) → Sem (ForInStep (List (Str × Value) × List (Str × Value)))}
    (hf : ∀ x s e, (normal.contains x.1 || kwonly.contains x.1) = true → (s.lookup x.1).isSome = false → f x (s, e) = pure (.yield (s ++ [x], e))) (e : List (Str × Value)) :
    ∀ (kw s : List (Str × Value)), (∀ x ∈ kw, (normal.contains x.1 || kwonly.contains x.1) = true) → ((s ++ kw).map (·.1)).Nodup → forIn kw (s, e) f = pure (s ++ kw, e)
  | [], s, _, _ => by simp
  | x :: kw, s, h1, h2 => by
    rw [List.forIn_cons, hf x s e (h1 x (List.mem_cons_self ..)) ?_]
    · show forIn kw (s ++ [x], e) f = _
      rw [kwLoop hf e kw (s ++ [x]) (fun y hy => h1 y (List.mem_cons_of_mem _ hy)) (by simpa using h2)]
      simp
    · refine look_none fun z => ?_
      rw [List.map_append, List.nodup_append] at h2
      exact h2.2.2 x.1 z x.1 (by simp) rfl
theorem dLoop {f : Str × Value → List (Str × Value) → Sem (ForInStep (List (Str × Value)))} : forIn ([] : List (Str × Value)) s f = pure s := rfl
theorem kwoLoop {α β : Type} {f : Str → List (Str × α) × β → Sem (ForInStep (List (Str × α) × β))} (hf : ∀ x s e, (s.lookup x).isNone = false → f x (s, e) = pure (.yield (s, e))) (e : β) (s : List (Str × α)) :
    ∀ (l : List Str), (∀ x ∈ l, (s.lookup x).isNone = false) → forIn l (s, e) f = pure (s, e)
  | [], _ => rfl
  | x :: l, h => by
    rw [List.forIn_cons, hf x s e (h x (List.mem_cons_self ..))]
    exact kwoLoop hf e s l fun y hy => h y (List.mem_cons_of_mem _ hy)
theorem filt_nil {α : Type} {s : List (Str × α)} {l : List Str} (h : ∀ x ∈ l, ∃ v, s.lookup x = some v) : l.filter (fun n => (s.lookup n).isNone) = [] := by
  rw [List.filter_eq_nil_iff]
  intro x hx
  obtain ⟨v, e⟩ := h x hx
  rw [e]
  simp
/-- no defaults -/
theorem bind_plain {fd : FuncData} {pos : List Value} {kw : List (Str × Value)} {norm kwo : List Str} (hpos : fd.params.posonlyargs = []) (hn : fd.params.args.map (·.arg) = norm) (hko : fd.params.kwonlyargs.map (·.arg) = kwo) (hv : fd.params.vararg = none) (hk : fd.params.kwarg = none) (hd : fd.defaults = .none)
    (h0 : pos.length ≤ norm.length) (h1 : ∀ x ∈ kw, x.1 ∈ norm ++ kwo) (h2 : ((norm.zip pos ++ kw).map (·.1)).Nodup) (h3 : ∀ x ∈ norm ++ kwo, ∃ v, (norm.zip pos ++ kw).lookup x = some v) :
    bindArgs fd ⟨pos, kw⟩ = pure ((norm ++ kwo).filterMap fun n => ((norm.zip pos ++ kw).lookup n).map (n, ·)) := by
  unfold bindArgs
  dsimp only
  rw [hpos, hn, hko, hv, hk, hd]
  simp only [List.map_nil, List.nil_append]
  rw [kwLoop (normal := norm) (kwonly := kwo) (fun x s e q1 q2 => by
    rw [if_pos q1, if_neg (by rw [q2]; decide)]) [] kw _ (fun x hx => by simpa using List.mem_append.mp (h1 x hx)) h2]
  rw [pure_bind, show seqItems? Value.none = pure none from rfl, pure_bind]
  have g : decide (pos.length > norm.length) = false := by simp; omega
  have hsel : ∀ x ∈ kwo, ((norm.zip pos ++ kw).lookup x).isNone = false := fun x hx => by
    obtain ⟨v, e⟩ := h3 x (List.mem_append_right _ hx)
    rw [e]; rfl
  have hfil : (List.take norm.length norm).filter (fun n => ((norm.zip pos ++ kw).lookup n).isNone) = [] := by
    rw [List.take_length]
    exact filt_nil fun x hx => h3 x (List.mem_append_left _ hx)
  simp only [g, Bool.false_and, Bool.false_eq_true, if_false, Option.getD_none, List.length_nil, Nat.zero_sub, List.drop_nil, List.zip_nil_right, Nat.sub_zero, hfil, List.isEmpty_nil, Bool.not_true]
  rw [List.forIn_nil, pure_bind]
  rw [kwoLoop (fun x s e q => by rw [if_neg (by rw [q]; decide)]) _ _ _ hsel]
  rfl
theorem look_map {α β : Type} (f : α → β) (x : Nat) : ∀ l : List (Nat × α), (l.map fun p => (p.1, f p.2)).lookup x = (l.lookup x).map f
  | [] => rfl
  | (y, v) :: r => by
    simp only [List.map_cons, List.lookup_cons]
    cases x == y with
    | true => rfl
    | false => exact look_map f x r
theorem look_nm {α : Type} {nm : Nat → Str} {ns : List Nat} (inj : ∀ x ∈ ns, ∀ y ∈ ns, nm x = nm y → x = y) {x : Nat} (hx : x ∈ ns) : ∀ l : List (Nat × α), (∀ p ∈ l, p.1 ∈ ns) → (l.map fun p => (nm p.1, p.2)).lookup (nm x) = l.lookup x
  | [], _ => rfl
  | (y, v) :: r, h => by
    simp only [List.map_cons, List.lookup_cons]
    by_cases e : x = y
    · subst e
      rw [show (x == x) = true from beq_iff_eq.mpr rfl, show (nm x == nm x) = true from beq_iff_eq.mpr rfl]
    · have e2 : nm x ≠ nm y := fun z => e (inj x hx y (h _ (List.mem_cons_self ..)) z)
      rw [show (x == y) = false from beq_eq_false_iff_ne.mpr e, show (nm x == nm y) = false from beq_eq_false_iff_ne.mpr e2]
      exact look_nm inj hx r fun p hp => h p (List.mem_cons_of_mem _ hp)
theorem inj_of {nm : Nat → Str} : ∀ {ns : List Nat}, (ns.map nm).Nodup → ∀ x ∈ ns, ∀ y ∈ ns, nm x = nm y → x = y
  | [], _, x, hx, _, _, _ => by cases hx
  | a :: r, h, x, hx, y, hy, e => by
    rw [List.map_cons, List.nodup_cons] at h
    rcases List.mem_cons.mp hx with hx1 | hx1
    · rcases List.mem_cons.mp hy with hy1 | hy1
      · rw [hx1, hy1]
      · exact absurd (List.mem_map.mpr ⟨y, hy1, by rw [← hx1]; exact e.symm⟩) h.1
    · rcases List.mem_cons.mp hy with hy1 | hy1
      · exact absurd (List.mem_map.mpr ⟨x, hx1, by rw [← hy1]; exact e⟩) h.1
      · exact inj_of h.2 x hx1 y hy1 e
theorem mapM_some {α : Type} {l : List (Nat × α)} : ∀ {ns : List Nat} {zs : List α}, (ns.mapM fun x => l.lookup x) = some zs → (∀ x ∈ ns, ∃ v, l.lookup x = some v) ∧ zs.length = ns.length ∧ ∀ (i : Nat) (x : Nat), ns[i]? = some x → zs[i]? = l.lookup x
  | [], zs, h => by
    simp at h
    subst h
    exact ⟨(fun x hx => by cases hx), rfl, fun i x hx => by simp at hx⟩
  | a :: r, zs, h => by
    rw [List.mapM_cons] at h
    cases h1 : l.lookup a with
    | none => rw [h1] at h; cases h
    | some v =>
      rw [h1] at h
      cases h2 : (r.mapM fun x => l.lookup x) with
      | none => rw [h2] at h; cases h
      | some ws =>
        rw [h2] at h
        obtain rfl : v :: ws = zs := Option.some.inj h
        obtain ⟨q1, q2, q3⟩ := mapM_some h2
        refine ⟨fun x hx => ?_, by simp [q2], fun i x hx => ?_⟩
        · rcases List.mem_cons.mp hx with rfl | hx
          · exact ⟨v, h1⟩
          · exact q1 x hx
        · cases i with
          | zero => simp at hx; subst hx; simp [h1]
          | succ i => simpa using q3 i x (by simpa using hx)
theorem filt_zip {α : Type} {g : Str → Option α} : ∀ {ns : List Str} {us : List α}, us.length = ns.length → (∀ (i : Nat) (x : Str), ns[i]? = some x → us[i]? = g x) → (ns.filterMap fun n => (g n).map (n, ·)) = ns.zip us
  | [], us, _, _ => by simp
  | a :: r, [], h, _ => by cases h
  | a :: r, u :: us, h, hg => by
    have h1 := hg 0 a rfl
    simp at h1
    rw [List.filterMap_cons, ← h1]
    simp only [Option.map_some, List.zip_cons_cons]
    rw [filt_zip (by simpa using h) fun i x hx => by simpa using hg (i + 1) x (by simpa using hx)]
theorem paired_get {α β : Type} {R : α → β → Prop} {l : List α} {m : List β} (hl : l.length = m.length) (h : ∀ (i : Nat) (a : α) (b : β), l[i]? = some a → m[i]? = some b → R a b) : Paired R l m := by
  induction l generalizing m with
  | nil => cases m with
    | nil => exact .nil
    | cons _ _ => cases hl
  | cons a l ih =>
    cases m with
    | nil => cases hl
    | cons b m => exact .cons (h 0 a b rfl rfl) (ih (by simpa using hl) fun i x y h1 h2 => h (i + 1) x y (by simpa using h1) (by simpa using h2))
theorem rvs_get {G : Gd} {pn : Pn} {φ : List Addr} {O : Addr → Prop} {H : Hp} : ∀ {xs : List V2} {vs : List V}, xs.length = vs.length → (∀ (i : Nat) (x : V2) (v : V), xs[i]? = some x → vs[i]? = some v → RV G pn φ O H x v) → RVs G pn φ O H xs vs
  | [], [], _, _ => rfl
  | [], _ :: _, h, _ => by cases h
  | _ :: _, [], h, _ => by cases h
  | x :: xs, v :: vs, hl, h => ⟨v, vs, rfl, h 0 x v rfl rfl, rvs_get (by simpa using hl) fun i a b h1 h2 => h (i + 1) a b (by simpa using h1) (by simpa using h2)⟩
/-- the three together -/
abbrev T3 := V2 × V × Value
def t3 (xs : List V2) (vs : List V) (us : List Value) : List T3 := xs.zip (vs.zip us)
theorem t3_fst {xs : List V2} {vs : List V} {us : List Value} (h1 : vs.length = xs.length) (h2 : us.length = vs.length) : (t3 xs vs us).map (·.1) = xs ∧ (t3 xs vs us).map (·.2.1) = vs ∧ (t3 xs vs us).map (·.2.2) = us := by
  have l : xs.length ≤ (vs.zip us).length := by rw [List.length_zip]; omega
  refine ⟨List.map_fst_zip l, ?_, ?_⟩
  · have : (t3 xs vs us).map (·.2) = vs.zip us := List.map_snd_zip (by rw [List.length_zip]; omega)
    rw [show (fun x : T3 => x.2.1) = (fun y : V × Value => y.1) ∘ (fun x : T3 => x.2) from rfl, ← List.map_map, this, List.map_fst_zip (by omega)]
  · have : (t3 xs vs us).map (·.2) = vs.zip us := List.map_snd_zip (by rw [List.length_zip]; omega)
    rw [show (fun x : T3 => x.2.2) = (fun y : V × Value => y.2) ∘ (fun x : T3 => x.2) from rfl, ← List.map_map, this, List.map_snd_zip (by omega)]
theorem rvs_t3 {G : Gd} {pn : Pn} {φ : List Addr} {O : Addr → Prop} {H : Hp} {xs : List V2} {vs : List V} {us : List Value} (r : RVs G pn φ O H xs vs) (q : Vals vs us) : ∀ t ∈ t3 xs vs us, RV G pn φ O H t.1 t.2.1 ∧ RelV t.2.1 t.2.2 := fun t ht => by
  obtain ⟨i, hi, e⟩ := List.getElem_of_mem ht
  have e' : (t3 xs vs us)[i]? = some t := by rw [List.getElem?_eq_getElem hi, e]
  unfold t3 at e'
  rw [List.getElem?_zip_eq_some] at e'
  obtain ⟨e1, e2⟩ := e'
  rw [List.getElem?_zip_eq_some] at e2
  refine ⟨rvs_at r e1 e2.1, ?_⟩
  obtain ⟨u, hu, rv⟩ := q.get e2.1
  rw [e2.2] at hu
  cases hu
  exact rv
theorem look_mem {α : Type} {x : Nat} {v : α} : ∀ {l : List (Nat × α)}, l.lookup x = some v → (x, v) ∈ l
  | [], h => by cases h
  | (y, w) :: r, h => by
    rw [List.lookup_cons] at h
    by_cases e : x = y
    · subst e
      rw [show (x == x) = true from beq_iff_eq.mpr rfl] at h
      cases h
      exact List.mem_cons_self ..
    · rw [show (x == y) = false from beq_eq_false_iff_ne.mpr e] at h
      exact List.mem_cons_of_mem _ (look_mem h)
theorem mapM_of {α : Type} {l : List (Nat × α)} : ∀ {ns : List Nat}, (∀ x ∈ ns, ∃ v, l.lookup x = some v) → ∃ zs, (ns.mapM fun x => l.lookup x) = some zs
  | [], _ => ⟨[], rfl⟩
  | a :: r, h => by
    obtain ⟨v, hv⟩ := h a (List.mem_cons_self ..)
    obtain ⟨zs, hz⟩ := mapM_of (ns := r) fun x hx => h x (List.mem_cons_of_mem _ hx)
    exact ⟨v :: zs, by rw [List.mapM_cons, hv, hz]; rfl⟩
theorem nodup_nm {nm : Nat → Str} {ns : List Nat} (inj : ∀ x ∈ ns, ∀ y ∈ ns, nm x = nm y → x = y) : ∀ {l : List Nat}, l.Nodup → (∀ x ∈ l, x ∈ ns) → (l.map nm).Nodup
  | [], _, _ => .nil
  | a :: r, h, hl => by
    rw [List.nodup_cons] at h
    rw [List.map_cons, List.nodup_cons]
    refine ⟨fun z => ?_, nodup_nm inj h.2 fun x hx => hl x (List.mem_cons_of_mem _ hx)⟩
    obtain ⟨y, hy, e⟩ := List.mem_map.mp z
    have := inj y (hl y (List.mem_cons_of_mem _ hy)) a (hl a (List.mem_cons_self ..)) e
    exact h.1 (this ▸ hy)
/-- no defaults: what is bound -/
theorem bnd_plain {G : Gd} {fd : FuncData} {norm kwo : List Nat} (hpos : fd.params.posonlyargs = []) (hn : fd.params.args.map (·.arg) = norm.map G.nm) (hko : fd.params.kwonlyargs.map (·.arg) = kwo.map G.nm) (hv : fd.params.vararg = none) (hk : fd.params.kwarg = none) (hd : fd.defaults = .none)
    (nd : ((norm ++ kwo).map G.nm).Nodup) : BndOk G fd ((norm ++ kwo).map G.nm) (fun pos kw => bindP norm kwo [] [] pos kw) := by
  intro s pos kw zs us ws vs ks pn φ O H B hK hb r1 r2 v1 v2
  have hb : bindP norm kwo [] [] pos kw = some zs := hb
  unfold bindP at hb
  dsimp only at hb
  split at hb
  · rename_i h0
    simp only [List.length_nil, Nat.sub_zero, List.drop_length, List.zip_nil_right, List.append_nil] at hb
    split at hb
    · rename_i h1
      simp only [Bool.and_eq_true, List.all_eq_true, decide_eq_true_eq] at h1
      obtain ⟨h1, h2⟩ := h1
      obtain ⟨m1, m2, m3⟩ := mapM_some hb
      have lp : vs.length = pos.length := RVs.len r1
      have lk : ks.length = kw.length := by rw [RVs.len r2, List.length_map]
      have lu : us.length = vs.length := v1.length.symm
      have lw : ws.length = ks.length := v2.length.symm
      obtain ⟨p1, p2, p3⟩ := t3_fst lp lu
      obtain ⟨k1, k2, k3⟩ := t3_fst (xs := kw.map (·.2)) (vs := ks) (us := ws) (by rw [List.length_map]; exact lk) lw
      have lt : (t3 pos vs us).length = pos.length := by rw [← List.length_map (f := (·.1)), p1]
      have ltk : (t3 (kw.map (·.2)) ks ws).length = kw.length := by rw [← List.length_map (f := (·.1)), k1, List.length_map]
      -- the three together, by name
      let all : List (Nat × T3) := norm.zip (t3 pos vs us) ++ (kw.map (·.1)).zip (t3 (kw.map (·.2)) ks ws)
      have am : ∀ {β : Type} (f : T3 → β), (all.map fun p => (p.1, f p.2)) = norm.zip ((t3 pos vs us).map f) ++ (kw.map (·.1)).zip ((t3 (kw.map (·.2)) ks ws).map f) := fun {β} f => by
        show ((norm.zip (t3 pos vs us) ++ (kw.map (·.1)).zip (t3 (kw.map (·.2)) ks ws)).map fun p => (p.1, f p.2)) = _
        rw [List.map_append, List.zip_map_right, List.zip_map_right]
        rfl
      have a1 : (all.map fun p => (p.1, p.2.1)) = norm.zip pos ++ kw := by
        rw [am (fun t => t.1), p1, k1]
        congr 1
        exact (List.zip_of_prod rfl rfl).symm
      have a3 : (all.map fun p => (p.1, p.2.2.2)) = norm.zip us ++ (kw.map (·.1)).zip ws := by rw [am (fun t => t.2.2), p3, k3]
      have names : all.map (·.1) = (norm.zip pos ++ kw).map (·.1) := by
        rw [← a1, List.map_map]
        rfl
      have inn : ∀ p ∈ all, p.1 ∈ norm ++ kwo := fun p hp => by
        have : p.1 ∈ (norm.zip pos ++ kw).map (·.1) := by rw [← names]; exact List.mem_map.mpr ⟨p, hp, rfl⟩
        rw [List.map_append, List.mem_append] at this
        rcases this with z | z
        · obtain ⟨q, hq, e⟩ := List.mem_map.mp z
          rw [← e]
          exact List.mem_append_left _ (List.of_mem_zip (a := q.1) (b := q.2) hq).1
        · obtain ⟨q, hq, e⟩ := List.mem_map.mp z
          rw [← e]
          simpa using h1 q hq
      have look : ∀ x ∈ norm ++ kwo, ∃ t, all.lookup x = some t ∧ RV (G.at B) pn φ O H t.1 t.2.1 ∧ RelV t.2.1 t.2.2 := fun x hx => by
        obtain ⟨v, hv⟩ := m1 x hx
        rw [← a1, look_map (fun t : T3 => t.1)] at hv
        cases ht : all.lookup x with
        | none => rw [ht] at hv; cases hv
        | some t =>
          have hm := look_mem ht
          rcases List.mem_append.mp hm with z | z
          · exact ⟨t, rfl, rvs_t3 r1 v1 t (List.of_mem_zip z).2⟩
          · exact ⟨t, rfl, rvs_t3 r2 v2 t (List.of_mem_zip z).2⟩
      -- the answers
      obtain ⟨ts, hts⟩ := mapM_of (l := all) (ns := norm ++ kwo) fun x hx => let ⟨t, e, _⟩ := look x hx; ⟨t, e⟩
      obtain ⟨_, t2, t3'⟩ := mapM_some hts
      have get : ∀ (i : Nat) (t : T3), ts[i]? = some t → ∃ x, (norm ++ kwo)[i]? = some x ∧ all.lookup x = some t := fun i t ht => by
        have hi : i < (norm ++ kwo).length := by rw [← t2]; exact (List.getElem?_eq_some_iff.mp ht).1
        have e := t3' i _ (List.getElem?_eq_getElem hi)
        rw [ht] at e
        exact ⟨_, List.getElem?_eq_getElem hi, e.symm⟩
      have good : ∀ (i : Nat) (t : T3), ts[i]? = some t → RV (G.at B) pn φ O H t.1 t.2.1 ∧ RelV t.2.1 t.2.2 := fun i t ht => by
        obtain ⟨x, hx, e⟩ := get i t ht
        obtain ⟨t', e', q⟩ := look x (List.mem_of_getElem? hx)
        rw [e] at e'
        cases e'
        exact q
      have hz : zs = ts.map (·.1) := by
        apply List.ext_getElem?
        intro i
        by_cases hi : i < (norm ++ kwo).length
        · have hx := List.getElem?_eq_getElem hi
          rw [m3 i _ hx, List.getElem?_map, t3' i _ hx, ← a1, look_map (fun t : T3 => t.1)]
        · rw [List.getElem?_eq_none (by omega), List.getElem?_eq_none (by rw [List.length_map]; omega)]
      refine ⟨ts.map (·.2.2), ts.map (·.2.1), ?_, ?_, ?_, by simp [t2]⟩
      · have ek : ((kw.map fun p => G.nm p.1).zip ws) = ((kw.map (·.1)).zip ws).map fun p => (G.nm p.1, p.2) := by
          rw [show (fun p : Nat × V2 => G.nm p.1) = G.nm ∘ (fun p => p.1) from rfl, ← List.map_map, List.zip_map_left]
          rfl
        have en : ((norm.map G.nm).zip us) = (norm.zip us).map fun p => (G.nm p.1, p.2) := by
          rw [List.zip_map_left]
          rfl
        have eall : ((norm.map G.nm).zip us ++ (kw.map fun p => G.nm p.1).zip ws) = (all.map fun p => (p.1, p.2.2.2)).map fun p => (G.nm p.1, p.2) := by
          rw [ek, en, a3, List.map_append]
        have inn3 : ∀ p ∈ (all.map fun p => (p.1, p.2.2.2)), p.1 ∈ norm ++ kwo := fun p hp => by
          obtain ⟨q, hq, e⟩ := List.mem_map.mp hp
          rw [← e]
          exact inn q hq
        have inj := inj_of nd
        have lk3 : ∀ x ∈ norm ++ kwo, ((norm.map G.nm).zip us ++ (kw.map fun p => G.nm p.1).zip ws).lookup (G.nm x) = (all.lookup x).map fun t => t.2.2 := fun x hx => by
          rw [eall, look_nm inj hx _ inn3, look_map (fun t : T3 => t.2.2)]
        have := bind_plain (fd := fd) (pos := us) (kw := (kw.map fun p => G.nm p.1).zip ws) hpos hn hko hv hk hd (by rw [List.length_map]; omega) (fun x hx => by
            have z := (List.of_mem_zip (a := x.1) (b := x.2) hx).1
            obtain ⟨q, hq, e⟩ := List.mem_map.mp z
            rw [← e, ← List.map_append]
            exact List.mem_map.mpr ⟨q.1, by simpa using h1 q hq, rfl⟩) (by
            rw [eall, List.map_map]
            have e5 : (all.map fun p => (p.1, p.2.2.2)).map ((fun p : Str × Value => p.1) ∘ fun p : Nat × Value => (G.nm p.1, p.2)) = (all.map (·.1)).map G.nm := by
              rw [List.map_map, List.map_map]
              rfl
            rw [e5]
            rw [← names] at h2
            exact nodup_nm inj h2 fun x hx => by
              obtain ⟨p, hp, e⟩ := List.mem_map.mp hx
              rw [← e]
              exact inn p hp) (fun x hx => by
            rw [← List.map_append] at hx
            obtain ⟨y, hy, rfl⟩ := List.mem_map.mp hx
            obtain ⟨t, e, _⟩ := look y hy
            exact ⟨t.2.2, by rw [lk3 y hy, e]; rfl⟩)
        refine BindsTo.of_eq (this.trans (congrArg pure ?_))
        rw [← List.map_append]
        refine filt_zip (by simp [t2]) fun i x hx => ?_
        rw [List.getElem?_map] at hx
        cases hy : (norm ++ kwo)[i]? with
        | none => rw [hy] at hx; cases hx
        | some y =>
          rw [hy] at hx
          cases hx
          rw [lk3 y (List.mem_of_getElem? hy), List.getElem?_map, t3' i y hy]
      · refine paired_get (by simp) fun i a b h1 h2 => ?_
        rw [List.getElem?_map] at h1 h2
        cases e : ts[i]? with
        | none => rw [e] at h1; cases h1
        | some t => rw [e] at h1 h2; cases h1; cases h2; exact (good i t e).2
      · rw [hz]
        refine rvs_get (by simp) fun i a b h1 h2 => ?_
        rw [List.getElem?_map] at h1 h2
        cases e : ts[i]? with
        | none => rw [e] at h1; cases h1
        | some t => rw [e] at h1 h2; cases h1; cases h2; exact (good i t e).1
    · cases hb
  · cases hb
end PI

set_option maxRecDepth 100000
set_option maxHeartbeats 1000000
namespace PI
open PySem PySem.Spec PyProof.Rows L2

/-- one def: its number, what it is, its slots' names -/
structure En where
  id : Nat
  fn : Fn
  N : List Str
/-- a law's table -/
structure LD where
  nms : List (Nat × Str)
  gl : List (Nat × D)
  fr : List Str
  fs : List En
def LD.nm (l : LD) (i : Nat) : Str := (l.nms.lookup i).getD ⟨#[]⟩
def LD.tb (l : LD) : Tb := ⟨l.nm, l.fs.map (·.id), l.gl.map (·.1), l.fr, []⟩
def kit0 : TV → IC → Option Bool
  | .ty a, .ty b => kitB a b
  | _, _ => none
def LD.fnOf (l : LD) (f : Nat) : Option Fn := (l.fs.find? fun e => e.id == f).map (·.fn)
def LD.globOf (l : LD) (g : Nat) : D := (l.gl.lookup g).getD .non
def LD.pg (l : LD) : Prog := ⟨l.fnOf, l.globOf, kit0⟩
def scB (N ps : List Str) (sc : Scope) : Bool := (match sc.kind with
  | .function => true
  | _ => false) && !sc.isCoroutine && !sc.isGenerator && decide N.Nodup && decide (N.take ps.length = ps) && ps.all (fun x => match sc.names.lookup x with
  | some .local => true
  | some .cell => true
  | _ => false) && sc.names.all fun y => decide (y.2 ≠ .free)
theorem scB_ok {N ps : List Str} {sc : Scope} (h : scB N ps sc = true) : FnScope N ps sc := by
  unfold scB at h
  simp only [Bool.and_eq_true, decide_eq_true_eq, List.all_eq_true, Bool.not_eq_true'] at h
  obtain ⟨⟨⟨⟨⟨⟨h1, h2⟩, h3⟩, h4⟩, h5⟩, h6⟩, h7⟩ := h
  refine ⟨?_, h2, h3, h4, h5, fun x hx => ?_, h7⟩
  · split at h1
    · assumption
    · cases h1
  · have := h6 x hx
    split at this
    · exact .inl (by assumption)
    · exact .inr (by assumption)
    · cases this
def okEn (T : Tb) (e : En) (d : He.DefD) : Bool :=
  decide (d.at_ = (T.nm e.id, none)) && d.params.posonlyargs.isEmpty && decide (d.params.args.map (·.arg) = e.fn.norm.map T.nm) && decide (d.params.kwonlyargs.map (·.arg) = e.fn.kwo.map T.nm) && d.params.vararg.isNone && d.params.kwarg.isNone
    && e.fn.dfl.isEmpty && e.fn.kwd.isEmpty && d.dfl.isEmpty && scB e.N ((e.fn.norm ++ e.fn.kwo).map T.nm) d.scope && decide (e.N.length = e.fn.slots) && okB T e.fn.body d.scope e.N d.body
def okEns (T : Tb) : List En → List He.DefD → Bool
  | [], _ => true
  | e :: es, d :: ds => okEn T e d && okEns T es ds
  | _ :: _, [] => false
def faG (l : LD) : Nat × D → He.Fa
  | (g, .int i) => .int (l.nm g) i
  | (g, .str s) => .str (l.nm g) ⟨s.toArray⟩
  | (g, _) => .glo (l.nm g)
def LD.fa (l : LD) : List He.Fa := l.gl.map (faG l) ++ (l.fr.map He.Fa.free ++ l.fs.map fun e => .glo (l.nm e.id))
def glB1 : D → Bool
  | .int _ => true
  | .str s => s.all (fun c => decide (c < 0x110000)) && decide (s.length ≤ 1000)
  | _ => false
def LD.chk (l : LD) (fn : List He.DefD) : Bool := okEns l.tb l.fs fn && l.gl.all (fun p => glB1 p.2) && decide (l.gl.map (·.1)).Nodup && decide (l.fs.map (·.id)).Nodup
theorem okEns_get {T : Tb} : ∀ {es : List En} {ds : List He.DefD}, okEns T es ds = true → ∀ e ∈ es, ∃ d ∈ ds, okEn T e d = true
  | [], _, _, e, he => by cases he
  | _ :: _, [], h, _, _ => ff h
  | x :: es, d :: ds, h, e, he => by
    rcases List.mem_cons.mp he with rfl | he
    · exact ⟨d, List.mem_cons_self .., a1 h⟩
    · obtain ⟨d', h1, h2⟩ := okEns_get (a2 h) e he
      exact ⟨d', List.mem_cons_of_mem _ h1, h2⟩
section
variable {l : LD} {fn : List He.DefD} {K : PySem.W.Frag} {h : Heap} {mg : Str → Option Value}
def gdOf (l : LD) (K : PySem.W.Frag) : Gd := ⟨K, fun _ => 0, l.nm, fun _ => False⟩
theorem look_of {α : Type} {x : Nat} {v : α} : ∀ {l : List (Nat × α)}, (l.map (·.1)).Nodup → (x, v) ∈ l → l.lookup x = some v
  | [], _, h => by cases h
  | (y, w) :: r, nd, h => by
    rw [List.map_cons, List.nodup_cons] at nd
    rw [List.lookup_cons]
    by_cases e : x = y
    · subst e
      rw [show (x == x) = true from beq_iff_eq.mpr rfl]
      rcases List.mem_cons.mp h with h | h
      · cases h; rfl
      · exact absurd (List.mem_map.mpr ⟨_, h, rfl⟩) nd.1
    · rw [show (x == y) = false from beq_eq_false_iff_ne.mpr e]
      rcases List.mem_cons.mp h with h | h
      · cases h; exact absurd rfl e
      · exact look_of nd.2 h
theorem find_of : ∀ {es : List En}, (es.map (·.id)).Nodup → ∀ e ∈ es, es.find? (fun x => x.id == e.id) = some e
  | [], _, e, he => by cases he
  | x :: es, nd, e, he => by
    rw [List.map_cons, List.nodup_cons] at nd
    rw [List.find?_cons]
    rcases List.mem_cons.mp he with rfl | he
    · simp
    · have : x.id ≠ e.id := fun z => nd.1 (List.mem_map.mpr ⟨e, he, z.symm⟩)
      rw [show (x.id == e.id) = false from beq_eq_false_iff_ne.mpr this]
      exact find_of nd.2 e he
theorem fact_of (c : He.SaysD l.fa fn K) {f : He.Fa} (hf : f ∈ l.fa) : f.ok K = true := by
  obtain ⟨i, hi⟩ := List.getElem?_of_mem hf
  exact c.fact i hi
theorem ft_of (X : K.In h) (G : h.Ns mainGlobals mg) (c : He.SaysD l.fa fn K) (chk : l.chk fn = true) : Ft (gdOf l K) l.tb l.pg mg where
  nm := rfl
  free := fun x hx => He.free_ok X G (fact_of c (List.mem_append_right _ (List.mem_append_left _ (List.mem_map.mpr ⟨x, hx, rfl⟩))))
  glob := fun g hg => by
    obtain ⟨⟨g', d⟩, hm, rfl⟩ := List.mem_map.mp hg
    have f1 := fact_of c (f := faG l (g', d)) (List.mem_append_left _ (List.mem_map.mpr ⟨_, hm, rfl⟩))
    have f2 : l.pg.glob g' = d := by
      show (l.gl.lookup g').getD .non = d
      rw [look_of (of_decide_eq_true (a2 (a1 chk))) hm]
      rfl
    have f3 : glB1 d = true := List.all_eq_true.mp (a2 (a1 (a1 chk))) _ hm
    cases d <;> first | exact ff f3 | skip
    · rename_i i
      obtain ⟨t, e⟩ := He.int_ok X G f1
      exact ⟨.int i, _, e, ⟨t, rfl⟩, fun B O H => by rw [f2]; exact rfl⟩
    · rename_i s
      obtain ⟨t, e⟩ := He.str_ok X G f1
      refine ⟨.str ⟨s.toArray⟩, _, e, ⟨t, rfl⟩, fun B O H => ?_⟩
      rw [f2]
      refine ⟨rfl, fun c hc => of_decide_eq_true (List.all_eq_true.mp (a1 f3) c hc), ?_⟩
      have : s.length ≤ 1000 := of_decide_eq_true (a2 f3)
      show s.length ≤ 16777216
      omega
  kit := fun t c b e => by
    cases t with
    | own C => cases c <;> cases e
    | ty n =>
      cases c with
      | own C => cases e
      | ty m => exact kit_ty e
  own := fun C c b e => by cases c <;> cases e
  cls := fun C hC => by cases hC
  fns := fun f hf => by
    obtain ⟨e, he, rfl⟩ := List.mem_map.mp hf
    have f1 := fact_of c (f := .glo (l.nm e.id)) (List.mem_append_right _ (List.mem_append_right _ (List.mem_map.mpr ⟨e, he, rfl⟩)))
    obtain ⟨d, hd, ok⟩ := okEns_get (a1 (a1 (a1 chk))) e he
    obtain ⟨i, hi⟩ := List.getElem?_of_mem hd
    obtain ⟨fd, F⟩ := c.def_ i hi
    have ea : d.at_ = (l.nm e.id, none) := of_decide_eq_true (a1 (a1 (a1 (a1 (a1 (a1 (a1 (a1 (a1 (a1 (a1 ok)))))))))))
    have : He.fAd K d.at_ = He.ga K (l.nm e.id) := by rw [ea]; rfl
    exact ⟨_, He.glo_ok X G f1, by show PySem.W.keepIn K (.ref (He.ga K (l.nm e.id))) = true; rw [← this]; exact F.kp⟩
/-- one def's facts -/
theorem def_of (X : K.In h) (G : h.Ns mainGlobals mg) (c : He.SaysD l.fa fn K) (chk : l.chk fn = true) {e : En} (he : e ∈ l.fs) {fA : Addr} (hm : mg (l.nm e.id) = some (.ref fA)) :
    ∃ fd ps, ps = (e.fn.norm ++ e.fn.kwo).map l.nm ∧ BndOk (gdOf l K) fd ps (l.pg.bind e.id) ∧ (∀ {P : Program} {w : World} {base : Heap} {hot : Bool} {k : Nat}, FnsOk (gdOf l K) l.tb l.pg P w mg base hot k → FnG (gdOf l K) P w mg base hot (k + 1) fA fd ps (call l.pg hot (k + 1) e.id)) ∧
      ∀ x, e.fn.norm = [x] → e.fn.kwo = [] → ∀ (s : Shared) (u : Value), BindsTo s fd ⟨[u], []⟩ [(l.nm x, u)] := by
  obtain ⟨d, hd, ok⟩ := okEns_get (a1 (a1 (a1 chk))) e he
  obtain ⟨i, hi⟩ := List.getElem?_of_mem hd
  obtain ⟨fd, F⟩ := c.def_ i hi
  have o1 := a1 ok
  have o2 := a1 o1
  have o3 := a1 o2
  have o4 := a1 o3
  have o5 := a1 o4
  have o6 := a1 o5
  have o7 := a1 o6
  have o8 := a1 o7
  have o9 := a1 o8
  have o10 := a1 o9
  have o11 := a1 o10
  have ea : d.at_ = (l.nm e.id, none) := of_decide_eq_true o11
  have b1 : d.params.posonlyargs = [] := List.isEmpty_iff.mp (a2 o10)
  have b2 : d.params.args.map (·.arg) = e.fn.norm.map l.nm := of_decide_eq_true (a2 o9)
  have b3 : d.params.kwonlyargs.map (·.arg) = e.fn.kwo.map l.nm := of_decide_eq_true (a2 o8)
  have b4 : d.params.vararg = none := Option.isNone_iff_eq_none.mp (a2 o7)
  have b5 : d.params.kwarg = none := Option.isNone_iff_eq_none.mp (a2 o6)
  have b6 : e.fn.dfl = [] := List.isEmpty_iff.mp (a2 o5)
  have b7 : e.fn.kwd = [] := List.isEmpty_iff.mp (a2 o4)
  have b8 : d.dfl = [] := List.isEmpty_iff.mp (a2 o3)
  have S : FnScope e.N ((e.fn.norm ++ e.fn.kwo).map l.nm) d.scope := scB_ok (a2 o2)
  have b9 : e.N.length = e.fn.slots := of_decide_eq_true (a2 o1)
  have b10 : okB l.tb e.fn.body d.scope e.N d.body = true := a2 ok
  have hfn : l.pg.fn e.id = some e.fn := by
    show (l.fs.find? fun x => x.id == e.id).map (·.fn) = some e.fn
    rw [find_of (of_decide_eq_true (a2 chk)) e he]
    rfl
  have hA : He.fAd K d.at_ = fA := by
    have f1 := fact_of c (f := .glo (l.nm e.id)) (List.mem_append_right _ (List.mem_append_right _ (List.mem_map.mpr ⟨e, he, rfl⟩)))
    have g := He.glo_ok X G f1
    rw [hm] at g
    have q : He.fAd K d.at_ = He.ga K (l.nm e.id) := by rw [ea]; rfl
    rw [q]
    have z := Option.some.inj g
    cases z
    rfl
  obtain ⟨oc, od, dV, kV, doc, pm, an, cdv, ct, osl, rfl, lk, hcd, hD, hK⟩ := F.ex
  rw [hA] at lk
  have hdv : dV = .none := by
    rcases hD with ⟨_, e⟩ | ⟨e, _⟩
    · exact e
    · exact absurd (show d.dfl.map _ = [] by rw [b8]; rfl) e
  subst hdv
  have nd : ((e.fn.norm ++ e.fn.kwo).map l.nm).Nodup := by
    rw [← S.pre]
    exact S.nd.sublist (List.take_sublist _ _)
  refine ⟨PySem.W.fnOf d.name d.qual d.params d.body d.scope .none kV doc pm an cdv ct, (e.fn.norm ++ e.fn.kwo).map l.nm, rfl, ?_, fun {P w base hot k} fns => ?_, fun x hx hy s u => ?_⟩
  · have := bnd_plain (G := gdOf l K) (fd := PySem.W.fnOf d.name d.qual d.params d.body d.scope .none kV doc pm an cdv ct) (norm := e.fn.norm) (kwo := e.fn.kwo) b1 b2 b3 b4 b5 rfl nd
    have eb : l.pg.bind e.id = fun pos kw => bindP e.fn.norm e.fn.kwo [] [] pos kw := by
      funext pos kw
      unfold Prog.bind
      rw [hfn]
      simp only [b6, b7, List.map_nil]
    rw [eb]
    exact this
  · exact fnG_of lk hcd S hfn (by rw [List.length_map, List.length_append]) b9 b10 (ft_of X G c chk) fns
  · rw [hx] at b2
    rw [hy] at b3
    have := bind_plain (fd := PySem.W.fnOf d.name d.qual d.params d.body d.scope .none kV doc pm an cdv ct) (pos := [u]) (kw := []) (norm := [l.nm x]) (kwo := []) b1 b2 b3 b4 b5 rfl (by simp) (fun y hy => by cases hy) (by simp) (fun y hy => by
      simp at hy
      subst hy
      exact ⟨u, by simp [List.lookup_cons]⟩)
    exact BindsTo.of_eq (this.trans (by simp [List.lookup_cons]))
theorem fns_of {P : Program} {w : World} {base : Heap} {hot : Bool} (X : K.In h) (G : h.Ns mainGlobals mg) (c : He.SaysD l.fa fn K) (chk : l.chk fn = true) : ∀ k, FnsOk (gdOf l K) l.tb l.pg P w mg base hot k := by
  intro k
  induction k with
  | zero =>
    intro f hf fA hm
    obtain ⟨e, he, rfl⟩ := List.mem_map.mp hf
    obtain ⟨fd, ps, _, hb, _, _⟩ := def_of X G c chk he hm
    exact ⟨fd, ps, hb, ⟨fun _ _ _ _ _ _ _ _ _ _ _ _ _ _ _ _ _ _ _ _ _ _ _ _ hF => False.elim hF⟩⟩
  | succ k ih =>
    intro f hf fA hm
    obtain ⟨e, he, rfl⟩ := List.mem_map.mp hf
    obtain ⟨fd, ps, _, hb, hF, _⟩ := def_of X G c chk he hm
    exact ⟨fd, ps, hb, hF ih⟩

def noList (K : PySem.W.Frag) : Bool := K.all fun p => decide (p.2.cls ≠ .type "list")
theorem noList_ok (hk : noList K = true) {a : Addr} {o : Obj} (e : K.lookup a = some o) : o.cls ≠ .type "list" := by
  have go : ∀ {l : List (Addr × Obj)}, l.lookup a = some o → (a, o) ∈ l := fun {l} => by
    induction l with
    | nil => intro e; cases e
    | cons p r ih =>
      intro e
      obtain ⟨b, q⟩ := p
      rw [List.lookup_cons] at e
      by_cases z : a = b
      · subst z
        rw [show (a == a) = true from beq_iff_eq.mpr rfl] at e
        cases e
        exact List.mem_cons_self ..
      · rw [show (a == b) = false from beq_eq_false_iff_ne.mpr z] at e
        exact List.mem_cons_of_mem _ (ih e)
  exact of_decide_eq_true (List.all_eq_true.mp hk _ (go e))
/-- the law's promise, the script in hand -/
def spLaw (K : PySem.W.Frag) : Sp := fun vs H Q _ => ∃ (a : Addr) (ns : List Int), vs = [.ref a] ∧ Rd H a (.lst (ns.map V.int)) ∧ ns.length ≤ 63 ∧ ∀ H', Q (.bl true) H'
theorem rds_ints {G : Gd} {O : Addr → Prop} {H : Hp} : ∀ ns : List Int, RDs G O H (ns.map D.int) (ns.map V.int)
  | [] => rfl
  | n :: ns => ⟨_, _, rfl, rfl, rds_ints ns⟩
theorem law_fn {P : Program} {w : World} {fA : Addr} (X : K.In h) (G : h.Ns mainGlobals mg) (c : He.SaysD l.fa fn K) (chk : l.chk fn = true) {k : Nat} {e : En} (he : e ∈ l.fs) (hm : mg (l.nm e.id) = some (.ref fA)) {x : Nat} (hx : e.fn.norm = [x]) (hy : e.fn.kwo = [])
    (truth : ∀ ns : List Int, ns.length ≤ 63 → call l.pg false (k + 1) e.id [.val (.lst (ns.map D.int))] [] = .ok (.val (.bl true)) []) :
    ∃ fd : FuncData, (∀ (s : Shared) (u : Value), BindsTo s fd ⟨[u], []⟩ [(l.nm x, u)]) ∧ ∀ base : Heap, FnOk P w K mg base CX0 (k + 1) fA fd [l.nm x] (spLaw K) := by
  obtain ⟨fd, ps, rfl, hb, hF, hB⟩ := def_of X G c chk he hm
  have hps : (e.fn.norm ++ e.fn.kwo).map l.nm = [l.nm x] := by rw [hx, hy]; rfl
  rw [hps] at hb
  rw [hps] at hF
  refine ⟨fd, hB x hx hy, fun base => ⟨fun vs H Q E q => ?_, fun A outer s H args us vs Q E hr e0 hbind r q => ?_⟩⟩
  · obtain ⟨a, ns, rfl, _⟩ := q
    rfl
  · have F := hF (P := P) (w := w) (base := base) (hot := false) (fns_of X G c chk k)
    obtain ⟨a, ns, rfl, hS, hn, hQ⟩ := q
    refine codeAny_mono (F.run (fun _ => False) [] A outer s H args us [.ref a] [.val (.lst (ns.map D.int))] [] [] Q (fun _ _ _ => False) ⟨hr.dp, hr.un⟩ (fun _ => ⟨hr.hd, rfl⟩) (fun z => by cases z) (fun p hp => by cases hp) e0 hbind r rfl ?_ ?_ ?_) fun r s' hq => ?_
    · exact ⟨rfl, (fun i o a e => by cases e), (fun i j o p a e => by cases e), fun a z => False.elim z⟩
    · refine ⟨_, [], rfl, ⟨a, _, rfl, ⟨hS, fun z => ?_⟩, rds_ints ns⟩, rfl⟩
      rcases z with ⟨i, o, z, _⟩ | z
      · cases z
      · exact z
    · rw [truth ns hn]
      intro φ' v H' h1 e1 r1
      cases (show v = V.bl true from r1)
      exact hQ H'
    · cases r with
      | error e =>
        obtain ⟨_, _, _, _, _, _, _, _, _, _, _, _, z⟩ := (show L2.CX P w outer H s (fun _ _ _ => False) e s' from hq)
        exact z
      | ok fl => cases fl <;> exact hq
end
def obsL (n : Nat) (fa : List He.Fa) (fn : List He.DefD) (g : Addr → Option Obj) : He.AlD × Bool := (He.obsD fa fn (He.frG g (He.asD g n)), noList (He.frG g (He.asD g n)))
def hookL (n : Nat) (fa : List He.Fa) (fn : List He.DefD) : PySem.W.Hook where
  α := He.AlD × Bool
  obs := fun s => obsL n fa fn s.heap.get?
  val := fun _ => (He.valD fn, true)
  says := fun _ h => ∃ K : PySem.W.Frag, K.In h ∧ He.SaysD fa fn K ∧ noList K = true
  of := fun _ _ e => ⟨_, He.frG_in, congrArg (fun z : He.AlD × Bool => z.1) e, congrArg (fun z : He.AlD × Bool => z.2) e⟩
  keeps := fun _ _ _ ⟨K, hK, c⟩ k => ⟨K, PySem.W.Frag.In.keeps hK k, c⟩
theorem obsL_eq {n : Nat} {fa : List He.Fa} {fn : List He.DefD} {g : Addr → Option Obj} {s : Shared} (h : ∀ a, g a = s.heap.get? a) : obsL n fa fn g = (hookL n fa fn).obs s := by
  have e : g = s.heap.get? := funext h
  rw [e] <;> rfl
end PI

set_option maxRecDepth 100000
set_option maxHeartbeats 1000000
namespace PI
section
variable (i j : Int) (s t : List Nat) (L : LH) (own : Bool) (b c : Bool) (d x : D) (n m : Nat)
theorem z_eq : cmpR .eq (.val (.int i)) (.val (.int j)) L = .ok (.val (.bl (decide (i = j)))) L := by
  have : (i == j) = decide (i = j) := rfl
  simp [cmpR, cmpV, cmpEq, V2.view, okd, D.okd, D.eqv, this]
theorem z_ne : cmpR .ne (.val (.int i)) (.val (.int j)) L = .ok (.val (.bl (!decide (i = j)))) L := by
  have : (i == j) = decide (i = j) := rfl
  simp [cmpR, cmpV, cmpEq, V2.view, okd, D.okd, D.eqv, this]
theorem z_lt : cmpR .lt (.val (.int i)) (.val (.int j)) L = .ok (.val (.bl (decide (i < j)))) L := rfl
theorem z_le : cmpR .le (.val (.int i)) (.val (.int j)) L = .ok (.val (.bl (decide (i ≤ j)))) L := rfl
theorem z_gt : cmpR .gt (.val (.int i)) (.val (.int j)) L = .ok (.val (.bl (decide (j < i)))) L := rfl
theorem z_ge : cmpR .ge (.val (.int i)) (.val (.int j)) L = .ok (.val (.bl (decide (j ≤ i)))) L := rfl
theorem z_isN : cmpR .is (.val .non) (.val .non) L = .ok (.val (.bl true)) L := rfl
theorem z_isbN : cmpR .is (.val (.bl b)) (.val .non) L = .ok (.val (.bl false)) L := rfl
theorem z_isbb : cmpR .is (.val (.bl b)) (.val (.bl c)) L = .ok (.val (.bl (b == c))) L := rfl
theorem z_isiN : cmpR .is (.val (.int i)) (.val .non) L = .ok (.val (.bl false)) L := rfl
theorem z_isib : cmpR .is (.val (.int i)) (.val (.bl b)) L = .ok (.val (.bl false)) L := rfl
theorem z_tb : V2.truth L (.val (.bl b)) = some b := rfl
theorem z_add : binV .add own (.val (.int i)) (.val (.int j)) L = .ok (.val (.int (i + j))) L := rfl
theorem z_sub : binV .sub own (.val (.int i)) (.val (.int j)) L = .ok (.val (.int (i - j))) L := rfl
theorem z_mul : binV .mul own (.val (.int i)) (.val (.int j)) L = if mulOk i j then .ok (.val (.int (i * j))) L else .stuck := rfl
theorem z_fdiv : binV .fdiv own (.val (.int i)) (.val (.int j)) L = if 0 < j ∧ j < 1073741824 then .ok (.val (.int (i / j))) L else .stuck := rfl
theorem z_mod : binV .mod own (.val (.int i)) (.val (.int j)) L = if 0 < j then .ok (.val (.int (i % j))) L else .stuck := rfl
theorem z_adds : binV .add own (.val (.str s)) (.val (.str t)) L = newS (s ++ t) L := rfl
theorem z_muls : binV .mul own (.val (.str s)) (.val (.int j)) L = if kOk j then newS (rep s j) L else .stuck := rfl
theorem z_newS (h : s.length ≤ 10000) : newS s L = .ok (.val (.str s)) L := by
  unfold newS
  rw [if_pos (show s.length ≤ 16777216 by omega)]
theorem z_slS (lo hi : Option Int) : sliceV own (.val (.str s)) lo hi L = .ok (.val (.str (cutD s lo hi))) L := rfl
theorem z_subS (k : Nat) (h : L2.atI s i = some k) : subV (.val (.str s)) (.val (.int i)) L = .ok (.val (.str [k])) L := by
  simp [subV, V2.int?, h]
theorem z_subL (xs : List D) (h : L2.atI xs i = some d) : subV (.val (.lst xs)) (.val (.int i)) L = .ok (.val d) L := by
  simp [subV, V2.int?, V2.seq?, h]
theorem z_subT (xs : List D) (h : L2.atI xs i = some d) : subV (.val (.tup xs)) (.val (.int i)) L = .ok (.val d) L := by
  simp [subV, V2.int?, V2.seq?, h]
theorem z_int : V2.int? (.val (.int i)) = some i := rfl
theorem z_len : biV own .len [.val (.str s)] L = .ok (.val (.int s.length)) L := rfl
theorem z_lenL (xs : List D) : biV own .len [.val (.lst xs)] L = .ok (.val (.int xs.length)) L := rfl
theorem z_lenT (xs : List D) : biV own .len [.val (.tup xs)] L = .ok (.val (.int xs.length)) L := rfl
theorem z_intI : biV own .int [.val (.int i)] L = .ok (.val (.int i)) L := rfl
theorem z_frz : frzd own n (.val d) L = .ok (.val d) L := by cases own <;> rfl
theorem z_frzO (x : V2) : frzd true n x L = .ok x L := rfl
theorem z_d0 : dats [] = some [] := rfl
theorem z_d1 (r : List V2) : dats (.val d :: r) = (dats r).map (d :: ·) := rfl
theorem z_up (k : Nat) (h : k < 128) : methV own .sUpper (.val (.str [k])) [] L = .ok (.val (.str (upper [k]))) L := by
  simp [methV, h]
theorem z_cnt (k : Nat) : methV own .sCount (.val (.str s)) [.val (.str [k])] L = .ok (.val (.int (s.count k))) L := rfl
theorem z_tyU : methTy .sUpper (.val (.str s)) L = true := rfl
theorem z_tyC : methTy .sCount (.val (.str s)) L = true := rfl
theorem z_finV : (RS.rt (.val d) L).fin n = .ok (.val d) (L.take n) := rfl
theorem z_newL (xs : List D) (h : xs.length ≤ 10000) : newL false xs L = .ok (.val (.lst xs)) L := by
  unfold newL
  rw [if_pos (show xs.length ≤ 16777216 by omega)]
  rfl
theorem z_newT (xs : List D) (h : xs.length ≤ 10000) : newT xs L = .ok (.val (.tup xs)) L := by
  unfold newT
  rw [if_pos (show xs.length ≤ 16777216 by omega)]
end
theorem z_bi1 (P : Prog) (k : Nat) (own : Bool) (b : BI) (X : IE) (sl : SL) (L : LH) : ev (cl P false k) (.bi own b [X]) sl L = (ev (cl P false k) X sl L).bind fun x L1 => biV own b [x] L1 := by
  simp only [ev, evs, cl, Bool.false_and, Bool.false_eq_true, if_false, R.bind_ok]
  cases ev ⟨call P false k, P.bind, P.glob, P.kit, false⟩ X sl L <;> rfl
theorem z_ret (c : Cl) (X : IE) (sl : SL) (L : LH) : exec c (.ret (some X)) sl L = (ev c X sl L).st sl fun x L1 => .rt x L1 := by simp only [exec]
theorem z_cons (c : Cl) (s : IS) (r : List IS) (sl : SL) (L : LH) : execs c (s :: r) sl L = (exec c s sl L).thn fun s' L' => execs c r s' L' := by simp only [execs]
theorem z_set (c : Cl) (i : Nat) (X : IE) (sl : SL) (L : LH) : exec c (.set i X) sl L = (ev c X sl L).st sl fun x L1 => .nx (sl.set i (some x)) L1 := by simp only [exec]
theorem z_for (P : Prog) (k : Nat) (tg : ITg) (ik : IK) (it : List IE) (b : List IS) (sl : SL) (L : LH) : exec (cl P false k) (.for_ tg ik it b) sl L = (evs (cl P false k) it sl L).st sl fun xs L1 => match itemsV ik xs L1 with
    | some ds => forGo (fun s' L' => execs (cl P false k) b s' L') tg (srcOf ik xs) ds ds sl L1
    | none => .stuck := by
  simp only [exec, cl, Bool.false_eq_true, if_false] <;> rfl
end PI

set_option maxRecDepth 100000
set_option maxHeartbeats 0
namespace Lw
open PI PySem PySem.W PySem.Calls PyProof.Rows
def p_is_place_1 : IE := .cmp .in_ (.v 1) (.g 16)
def b_is_place : List IS := [.ife (.or (.cmp .lt (.bi false .len [.v 0]) (.c (.int 1))) (.cmp .gt (.bi false .len [.v 0]) (.g 15))) [.ret (some (.c (.bl false)))] [],
  .ret (some (.bi false .all [.comp false p_is_place_1 (.nm 1) .over [.v 0] []]))]
def N_is_place : List Str := ["text", "letter"]
def f_is_place : Fn := { norm := [17], kwo := [], slots := 2, body := b_is_place }
def b__law_mix : List IS := [.set 2 (.bin .mod false (.bi false .int [.bin .add false (.bin .add false (.bin .mul false (.v 0) (.c (.int 48271))) (.bin .mul false (.v 1) (.c (.int 69621)))) (.c (.int 11))]) (.c (.int 2147483647))),
  .set 3 (.bin .mod false (.bi false .int [.bin .add false (.bin .add false (.bin .mul false (.v 2) (.v 2)) (.bin .mul false (.v 2) (.c (.int 40692)))) (.v 1)]) (.c (.int 2147483399))),
  .set 4 (.bin .mod false (.bi false .int [.bin .add false (.bin .add false (.bin .mul false (.v 3) (.v 3)) (.bin .mul false (.v 3) (.c (.int 16807)))) (.v 2)]) (.c (.int 2147483629))),
  .ret (some (.bin .add false (.bin .mul false (.v 4) (.c (.int 2147483399))) (.v 3)))]
def N__law_mix : List Str := ["number", "turn", "one", "two", "three"]
def f__law_mix : Fn := { norm := [18, 19], kwo := [], slots := 5, body := b__law_mix }
def p__law_store_1 : List IS := [.ex (.meth false .lAppend (.v 1) [.bi false .int [.v 3]]), .set 2 (.bin .mod false (.bi false .int [.bin .add false (.bin .add false (.bin .mul false (.v 2) (.c (.int 65599))) (.bin .mod false (.bi false .int [.v 3]) (.c (.int 2147483629)))) (.c (.int 1))]) (.c (.int 2147483647)))]
def b__law_store : List IS := [.set 1 (.lst true []),
  .set 2 (.c (.int 5)),
  .for_ (.nm 3) .over [.slice false (.v 0) none (some (.c (.int 63)))] p__law_store_1,
  .frz 1,
  .ret (some (.lst true [.v 1, .c (.int 0), .c (.int 0), .c (.int 0), .c (.int 0), .v 2]))]
def N__law_store : List Str := ["script", "cells", "total", "cell"]
def f__law_store : Fn := { norm := [20], kwo := [], slots := 4, body := b__law_store }
def b__law_take : List IS := [.ife (.cmp .le (.v 1) (.c (.int 1))) [.ret (some (.c (.int 0)))] [],
  .put (.v 0) (.c (.int 4)) (.bin .add false (.sub (.v 0) (.c (.int 4))) (.c (.int 1))),
  .set 2 (.bi false .int [.sub (.v 0) (.c (.int 2))]),
  .ife (.cmp .gt (.v 2) (.c (.int 0))) [.put (.v 0) (.c (.int 2)) (.bin .fdiv false (.v 2) (.v 1)), .ret (some (.bin .mod false (.v 2) (.v 1)))] [],
  .ife (.cmp .ge (.sub (.v 0) (.c (.int 1))) (.bi false .len [.sub (.v 0) (.c (.int 0))])) [.ret (some (.bin .mod false (.bi false .int [.call false 1 [.sub (.v 0) (.c (.int 5)), .sub (.v 0) (.c (.int 4))] []]) (.v 1)))] [],
  .set 3 (.bi false .int [.sub (.sub (.v 0) (.c (.int 0))) (.sub (.v 0) (.c (.int 1)))]),
  .ife (.cmp .ge (.v 3) (.bin .pow false (.c (.int 10)) (.c (.int 18)))) [.put (.v 0) (.c (.int 1)) (.bin .add false (.sub (.v 0) (.c (.int 1))) (.c (.int 1))), .put (.v 0) (.c (.int 2)) (.bin .fdiv false (.v 3) (.v 1)), .ret (some (.bin .mod false (.v 3) (.v 1)))] [],
  .put (.v 0) (.c (.int 3)) (.bin .add false (.sub (.v 0) (.c (.int 3))) (.c (.int 1))),
  .ife (.cmp .ge (.sub (.v 0) (.c (.int 3))) (.c (.int 4))) [.put (.v 0) (.c (.int 1)) (.bin .add false (.sub (.v 0) (.c (.int 1))) (.c (.int 1))), .put (.v 0) (.c (.int 3)) (.c (.int 0))] [],
  .ret (some (.bin .mod false (.bi false .int [.call false 1 [.v 3, .sub (.v 0) (.c (.int 4))] []]) (.v 1)))]
def N__law_take : List Str := ["store", "many", "left", "cell"]
def f__law_take : Fn := { norm := [21, 22], kwo := [], slots := 4, body := b__law_take }
def b__law_pick : List IS := [.ret (some (.sub (.v 1) (.call false 3 [.v 0, .bi false .len [.v 1]] [])))]
def N__law_pick : List Str := ["store", "row"]
def f__law_pick : Fn := { norm := [21, 23], kwo := [], slots := 2, body := b__law_pick }
def b__law_many : List IS := [.set 3 (.call false 3 [.v 0, .c (.int 6)] []),
  .ife (.or (.cmp .eq (.v 3) (.c (.int 0))) (.cmp .le (.v 2) (.v 1))) [.ret (some (.v 1))] [],
  .ife (.cmp .eq (.v 3) (.c (.int 1))) [.ret (some (.v 2))] [],
  .ife (.cmp .eq (.v 3) (.c (.int 2))) [.ret (some (.bin .add false (.v 1) (.c (.int 1))))] [],
  .ret (some (.bin .add false (.v 1) (.call false 3 [.v 0, .bin .add false (.bin .sub false (.v 2) (.v 1)) (.c (.int 1))] [])))]
def N__law_many : List Str := ["store", "least", "bound", "kind"]
def f__law_many : Fn := { norm := [21, 24, 25], kwo := [], slots := 4, body := b__law_many }
def p__law_same_1 : List IS := [.ife (.not (.call false 6 [.sub (.v 0) (.v 2), .sub (.v 1) (.v 2)] [])) [.ret (some (.c (.bl false)))] []]
def b__law_same : List IS := [.ife (.cmp .is (.v 1) (.c (.non))) [.ret (some (.cmp .is (.v 0) (.c (.non))))] [],
  .ife (.cmp .is (.v 1) (.c (.bl true))) [.ret (some (.cmp .is (.v 0) (.c (.bl true))))] [],
  .ife (.cmp .is (.v 1) (.c (.bl false))) [.ret (some (.cmp .is (.v 0) (.c (.bl false))))] [],
  .ife (.isi (.v 1) [.ty "int"]) [.ret (some (.and (.isi (.v 0) [.ty "int"]) (.and (.not (.isi (.v 0) [.ty "bool"])) (.cmp .eq (.v 0) (.v 1)))))] [],
  .ife (.isi (.v 1) [.ty "str"]) [.ret (some (.and (.isi (.v 0) [.ty "str"]) (.cmp .eq (.v 0) (.v 1))))] [],
  .ife (.isi (.v 1) [.ty "list"]) [.ife (.not (.isi (.v 0) [.ty "list"])) [.ret (some (.c (.bl false)))] []] [.ife (.not (.isi (.v 0) [.ty "tuple"])) [.ret (some (.c (.bl false)))] []],
  .ife (.cmp .ne (.bi false .len [.v 0]) (.bi false .len [.v 1])) [.ret (some (.c (.bl false)))] [],
  .for_ (.nm 2) .range [.bi false .len [.v 1]] p__law_same_1,
  .ret (some (.c (.bl true)))]
def N__law_same : List Str := ["actual", "due", "k"]
def f__law_same : Fn := { norm := [26, 27], kwo := [], slots := 3, body := b__law_same }
def b__law_letters : List IS := [.ret (some (.c (.str [97, 98, 99, 100, 101, 102, 103, 104, 105, 106, 107, 108, 109, 110, 111, 112, 113, 114, 115, 116, 117, 118, 119, 120, 121, 122])))]
def N__law_letters : List Str := []
def f__law_letters : Fn := { norm := [], kwo := [], slots := 0, body := b__law_letters }
def b__law_signs : List IS := [.set 0 (.c (.str [32, 33, 34, 35, 36, 38, 39, 40, 41, 42, 43, 44, 45, 46, 47, 48, 49, 50, 51, 52, 53, 54, 55, 56, 57, 58, 59, 60, 61, 62, 63, 64, 65, 66, 67, 68, 69, 70, 71, 72, 73, 74, 75, 76, 77, 78, 79, 80, 81, 82, 83, 84, 85, 86, 87, 88, 89, 90, 91, 92, 93, 94, 95, 96])),
  .ret (some (.bin .add false (.v 0) (.c (.str [123, 124, 125, 126]))))]
def N__law_signs : List Str := ["signs"]
def f__law_signs : Fn := { norm := [], kwo := [], slots := 1, body := b__law_signs }
def p__law_name_1 : List IS := [.set 1 (.bin .add false (.v 1) (.call false 4 [.v 0, .call false 7 [] []] []))]
def b__law_name : List IS := [.set 1 (.c (.str [])),
  .for_ (.nm 2) .range [.call false 5 [.v 0, .c (.int 1), .c (.int 6)] []] p__law_name_1,
  .ret (some (.v 1))]
def N__law_name : List Str := ["store", "name", "k"]
def f__law_name : Fn := { norm := [21], kwo := [], slots := 3, body := b__law_name }
def b__law_bad_place : List IS := [.set 1 (.call false 9 [.v 0] []),
  .set 2 (.call false 3 [.v 0, .c (.int 6)] []),
  .set 3 (.call false 3 [.v 0, .bi false .len [.v 1]] []),
  .set 4 (.call false 4 [.v 0, .call false 8 [] []] []),
  .ife (.cmp .eq (.v 2) (.c (.int 0))) [.ret (some (.c (.str [])))] [],
  .ife (.cmp .eq (.v 2) (.c (.int 1))) [.ret (some (.slice false (.bin .mul false (.v 1) (.c (.int 12))) none (some (.bin .add false (.c (.int 7)) (.call false 3 [.v 0, .c (.int 6)] [])))))] [],
  .ife (.cmp .eq (.v 2) (.c (.int 2))) [.ret (some (.bin .add false (.bin .add false (.slice false (.v 1) none (some (.v 3))) (.meth false .sUpper (.sub (.v 1) (.v 3)) [])) (.slice false (.v 1) (some (.bin .add false (.v 3) (.c (.int 1)))) none)))] [],
  .ife (.cmp .eq (.v 2) (.c (.int 3))) [.ret (some (.sub (.lst false [.bin .add false (.c (.str [32])) (.v 1), .bin .add false (.v 1) (.c (.str [32]))]) (.call false 3 [.v 0, .c (.int 2)] [])))] [],
  .ife (.cmp .eq (.v 2) (.c (.int 4))) [.ret (some (.bin .add false (.bin .add false (.slice false (.v 1) none (some (.v 3))) (.v 4)) (.slice false (.v 1) (some (.bin .add false (.v 3) (.c (.int 1)))) none)))] [],
  .ret (some (.bin .add false (.bin .add false (.slice false (.v 1) none (some (.v 3))) (.v 4)) (.slice false (.v 1) (some (.v 3)) none)))]
def N__law_bad_place : List Str := ["store", "name", "kind", "at", "sign"]
def f__law_bad_place : Fn := { norm := [21], kwo := [], slots := 5, body := b__law_bad_place }
def p__law_raw_place_1 : List IS := [.set 3 (.bin .add false (.v 3) (.call false 4 [.v 0, .v 2] []))]
def b__law_raw_place : List IS := [.set 1 (.call false 3 [.v 0, .c (.int 4)] []),
  .ife (.cmp .lt (.v 1) (.c (.int 2))) [.ret (some (.call false 9 [.v 0] []))] [],
  .ife (.cmp .eq (.v 1) (.c (.int 2))) [.ret (some (.call false 10 [.v 0] []))] [],
  .set 2 (.bin .add false (.call false 7 [] []) (.call false 8 [] [])),
  .set 3 (.c (.str [])),
  .for_ (.nm 4) .range [.call false 5 [.v 0, .c (.int 0), .c (.int 12)] []] p__law_raw_place_1,
  .ret (some (.v 3))]
def N__law_raw_place : List Str := ["store", "kind", "signs", "text", "k"]
def f__law_raw_place : Fn := { norm := [21], kwo := [], slots := 5, body := b__law_raw_place }
def p__law_counted_1 : List IS := [.set 1 (.bin .add false (.v 1) (.meth false .sCount (.v 0) [.v 2]))]
def b__law_counted : List IS := [.set 1 (.c (.int 0)),
  .for_ (.nm 2) .over [.call false 7 [] []] p__law_counted_1,
  .ret (some (.and (.chain .le .le (.c (.int 1)) (.bi false .len [.v 0]) (.c (.int 6))) (.cmp .eq (.v 1) (.bi false .len [.v 0]))))]
def N__law_counted : List Str := ["word", "many", "letter"]
def f__law_counted : Fn := { norm := [28], kwo := [], slots := 3, body := b__law_counted }
def p__law_words_1 : IE := .slice false (.bin .mul false (.v 1) (.c (.int 13))) none (some (.v 7))
def p__law_words_2 : List IS := [.ex (.meth false .lAppend (.v 4) [.bin .add false (.bin .add false (.slice false (.v 2) none (some (.v 3))) (.v 5)) (.slice false (.v 2) (some (.v 3)) none)]), .ex (.meth false .lAppend (.v 4) [.bin .add false (.bin .add false (.slice false (.v 2) none (some (.v 3))) (.v 5)) (.slice false (.v 2) (some (.bin .add false (.v 3) (.c (.int 1)))) none)])]
def p__law_words_3 : List IS := [.ex (.meth false .lAppend (.v 4) [.call false 11 [.v 0] []])]
def b__law_words : List IS := [.set 1 (.call false 9 [.v 0] []),
  .set 2 (.call false 9 [.v 0] []),
  .set 3 (.call false 3 [.v 0, .bin .add false (.bi false .len [.v 2]) (.c (.int 1))] []),
  .set 4 (.comp true p__law_words_1 (.nm 7) .range [.c (.int 13)] []),
  .for_ (.nm 5) .over [.bin .add false (.call false 7 [] []) (.call false 8 [] [])] p__law_words_2,
  .for_ (.nm 6) .range [.call false 5 [.v 0, .c (.int 0), .c (.int 12)] []] p__law_words_3,
  .ret (some (.v 4))]
def N__law_words : List Str := ["store", "stem", "base", "at", "words", "sign", "k", "size"]
def f__law_words : Fn := { norm := [21], kwo := [], slots := 8, body := b__law_words }
def p_law_1 : List IS := [.ife (.not (.call false 6 [.call false 0 [.v 3] [], .call false 12 [.v 3] []] [])) [.ret (some (.c (.bl false)))] []]
def p_law_2 : List IS := [.ife (.not (.call false 6 [.call false 0 [] [(17, .v 3)], .call false 12 [.v 3] []] [])) [.ret (some (.c (.bl false)))] []]
def b_law : List IS := [.set 1 (.call true 2 [.v 0] []),
  .set 2 (.call false 13 [.v 1] []),
  .for_ (.nm 3) .over [.v 2] p_law_1,
  .for_ (.nm 3) .over [.rev false (.v 2)] p_law_2,
  .ret (some (.c (.bl true)))]
def N_law : List Str := ["script", "store", "words", "word"]
def f_law : Fn := { norm := [20], kwo := [], slots := 4, body := b_law }
def gl : List (Nat × D) := [(16, .str [97, 98, 99, 100, 101, 102, 103, 104, 105, 106, 107, 108, 109, 110, 111, 112, 113, 114, 115, 116, 117, 118, 119, 120, 121, 122]), (15, .int 6)]
def nms : List (Nat × Str) := [(0, "is_place"), (1, "_law_mix"), (2, "_law_store"), (3, "_law_take"), (4, "_law_pick"), (5, "_law_many"), (6, "_law_same"), (7, "_law_letters"), (8, "_law_signs"), (9, "_law_name"), (10, "_law_bad_place"), (11, "_law_raw_place"), (12, "_law_counted"), (13, "_law_words"), (14, "law"), (15, "MOST_LETTERS"), (16, "LETTERS"), (17, "text"), (18, "number"), (19, "turn"), (20, "script"), (21, "store"), (22, "many"), (23, "row"), (24, "least"), (25, "bound"), (26, "actual"), (27, "due"), (28, "word")]
def fr : List Str := ["all", "bool", "int", "isinstance", "len", "list", "range", "str", "tuple"]
def ld : LD := ⟨nms, gl, fr, [⟨0, f_is_place, N_is_place⟩, ⟨1, f__law_mix, N__law_mix⟩, ⟨2, f__law_store, N__law_store⟩, ⟨3, f__law_take, N__law_take⟩, ⟨4, f__law_pick, N__law_pick⟩, ⟨5, f__law_many, N__law_many⟩, ⟨6, f__law_same, N__law_same⟩, ⟨7, f__law_letters, N__law_letters⟩, ⟨8, f__law_signs, N__law_signs⟩, ⟨9, f__law_name, N__law_name⟩, ⟨10, f__law_bad_place, N__law_bad_place⟩, ⟨11, f__law_raw_place, N__law_raw_place⟩, ⟨12, f__law_counted, N__law_counted⟩, ⟨13, f__law_words, N__law_words⟩, ⟨14, f_law, N_law⟩]⟩
end Lw

set_option maxRecDepth 100000
set_option maxHeartbeats 1000000
namespace Lw
open PI
theorem call_succ (hot : Bool) (k f : Nat) (vs : List V2) (L : LH) (F : Fn) (h : ld.pg.fn f = some F) : call ld.pg hot (k + 1) f vs L = runF (cl ld.pg hot k) F vs L := by
  simp only [call, h]
  rfl
/-- the mixing of two numbers -/
def mixI (a b : Int) : Int :=
  let one := (a * 48271 + b * 69621 + 11) % 2147483647
  let two := (one * one + one * 40692 + b) % 2147483399
  let three := (two * two + two * 16807 + one) % 2147483629
  three * 2147483399 + two
theorem mul_c (i j : Int) (h : -(2 ^ 64) < j ∧ j < 2 ^ 64) : mulOk i j = true := by
  unfold mulOk
  simp only [Bool.or_eq_true, Bool.and_eq_true, decide_eq_true_eq]
  exact .inr h
theorem c_mix (k : Nat) (a b : Int) (L : LH) : call ld.pg false (k + 1) 1 [.val (.int a), .val (.int b)] L = .ok (.val (.int (mixI a b))) L := by
  rw [call_succ false k 1 _ L f__law_mix rfl]
  have h1 : ∀ x : Int, mulOk x 48271 = true := fun x => mul_c _ _ (by decide)
  have h2 : ∀ x : Int, mulOk x 69621 = true := fun x => mul_c _ _ (by decide)
  have h3 : ∀ x : Int, mulOk x 40692 = true := fun x => mul_c _ _ (by decide)
  have h4 : ∀ x : Int, mulOk x 16807 = true := fun x => mul_c _ _ (by decide)
  have h5 : ∀ x : Int, mulOk x 2147483399 = true := fun x => mul_c _ _ (by decide)
  have h6 : ∀ x y : Int, mulOk y (x % 2147483647) = true := fun x y => mul_c _ _ (by omega)
  have h7 : ∀ x y : Int, mulOk y (x % 2147483399) = true := fun x y => mul_c _ _ (by omega)
  simp [runF, f__law_mix, b__law_mix, execs, exec, ev, evs, binV, V2.int?, binInt, biV, BI.calm, cl, R.st, h1, h2, h3, h4, h5, h6, h7, RS.fin, retV, mixI]
end Lw

set_option maxRecDepth 100000
set_option maxHeartbeats 4000000
namespace Lw
open PI
/-- a for over known items, no return in it -/
theorem for_all {body : SL → LH → RS} {tg : ITg} {src : Option Nat} {ds : List D} (I : Nat → SL → LH → Prop) (hs : ∀ i sl L, i ≤ ds.length → I i sl L → srcOk src ds L)
    (hb : ∀ i x sl L, ds[i]? = some x → I i sl L → ∃ sl', store tg x sl = some sl' ∧ ∃ sl2 L2, body sl' L = .nx sl2 L2 ∧ I (i + 1) sl2 L2) :
    ∀ (m i : Nat) (sl : SL) (L : LH), m = ds.length - i → i ≤ ds.length → I i sl L → ∃ sl2 L2, forGo body tg src ds (ds.drop i) sl L = .nx sl2 L2 ∧ I ds.length sl2 L2
  | 0, i, sl, L, hm, hi, h => by
    have e : i = ds.length := by omega
    subst e
    rw [List.drop_length]
    simp only [forGo]
    rw [if_pos (hs _ _ _ hi h)]
    exact ⟨sl, L, rfl, h⟩
  | m + 1, i, sl, L, hm, hi, h => by
    have hlt : i < ds.length := by omega
    obtain ⟨d, hd, hdrop⟩ := drop_at hlt
    rw [hdrop]
    simp only [forGo]
    rw [if_pos (hs _ _ _ hi h)]
    obtain ⟨sl', e1, sl2, L2, e2, h2⟩ := hb i d sl L hd h
    rw [e1]
    simp only [e2, RS.turn_nx]
    exact for_all I hs hb m (i + 1) sl2 L2 (by omega) hlt h2
/-- what the cells are -/
def SO (st : List D) : Prop := ∃ (cells : List Int) (a b c d e : Int), st = [.lst (cells.map D.int), .int a, .int b, .int c, .int d, .int e] ∧ 0 ≤ a
theorem c_store (k : Nat) (ns : List Int) (hn : ns.length ≤ 63) (L : LH) : ∃ st, SO st ∧ call ld.pg false (k + 1) 2 [.val (.lst (ns.map D.int))] L = .ok (.ref L.length) (L ++ [.lst st]) := by
  rw [call_succ false k 2 _ L f__law_store rfl]
  have hc : cutD (ns.map D.int) none (some 63) = ns.map D.int := by
    unfold cutD
    have h0 : HT.sIx (ns.map D.int).length 0 none = 0 := rfl
    have h1 : HT.sIx (ns.map D.int).length (ns.map D.int).length (some 63) = ns.length := by
      simp only [HT.sIx, List.length_map]
      rw [if_neg (by decide)]
      show min 63 ns.length = ns.length
      omega
    rw [h0, h1]
    simp only [List.drop_zero, Nat.sub_zero]
    exact List.take_of_length_le (by simp)
  have hm : ∀ x : Int, mulOk x 65599 = true := fun x => mul_c _ _ (by decide)
  have loop := for_all (body := fun s' L' => execs (cl ld.pg false k) p__law_store_1 s' L') (tg := .nm 3) (src := none) (ds := ns.map D.int)
    (fun i sl L' => ∃ (t : Int) (c : Option V2), sl = [some (.val (.lst (ns.map D.int))), some (.ref L.length), some (.val (.int t)), c] ∧ L' = L ++ [.lst ((ns.take i).map D.int)])
    (fun _ _ _ _ _ => trivial) (fun i x sl L' hx ⟨t, c, e1, e2⟩ => by
      rw [List.getElem?_map] at hx
      cases hi : ns[i]? with
      | none => rw [hi] at hx; cases hx
      | some v =>
        rw [hi] at hx
        cases hx
        have hlt : i < ns.length := (List.getElem?_eq_some_iff.mp hi).1
        refine ⟨_, rfl, ?_⟩
        subst e1 e2
        have g1 : (L ++ [LO.lst ((ns.take i).map D.int)])[L.length]? = some (.lst ((ns.take i).map D.int)) := by simp
        have g2 : ((ns.take i).map D.int).length < lim := by
          rw [List.length_map, List.length_take]
          show _ < 16777216
          omega
        have g3 : (L ++ [LO.lst ((ns.take i).map D.int)]).set L.length (.lst ((ns.take i).map D.int ++ [.int v])) = L ++ [.lst ((ns.take (i + 1)).map D.int)] := by
          rw [List.set_append_right _ _ (Nat.le_refl _)]
          rw [List.take_add_one, hi]
          simp
        refine ⟨_, _, ?_, (t * 65599 + v % 2147483629 + 1) % 2147483647, some (.val (.int v)), rfl, rfl⟩
        simp only [p__law_store_1, execs, exec, ev, evs, store, List.set, R.bind_ok, R.st_ok, RS.thn_nx, biV, BI.calm, Bool.and_false, Bool.false_eq_true, if_false, List.getElem?_cons_succ, List.getElem?_cons_zero, methTy, MI.ty, V2.lst?, g1, Option.isSome_some, if_true, methV, lstPut, g2, g3, binV, V2.int?, binInt, hm]
        simp)
    ns.length 0 [some (.val (.lst (ns.map D.int))), some (.ref L.length), some (.val (.int 5)), none] (L ++ [.lst []]) (by simp) (by simp) ⟨5, none, rfl, by simp⟩
  obtain ⟨sl2, L2, e, t, c, rfl, rfl⟩ := loop
  refine ⟨[.lst (ns.map D.int), .int 0, .int 0, .int 0, .int 0, .int t], ⟨ns, 0, 0, 0, 0, t, rfl, by decide⟩, ?_⟩
  rw [List.drop_zero] at e
  have hlen : ((ns.map D.int).length) = ns.length := by simp
  rw [hlen, List.take_length] at e
  have g1 : (L ++ [LO.lst (ns.map D.int)])[L.length]? = some (.lst (ns.map D.int)) := by simp
  have run : execs (cl ld.pg false k) b__law_store [some (.val (.lst (ns.map D.int))), none, none, none] L = .rt (.ref (L.length + 1)) (L ++ [.dead] ++ [.lst [.lst (ns.map D.int), .int 0, .int 0, .int 0, .int 0, .int t]]) := by
    unfold b__law_store
    simp only [execs, exec, evt, ev, evs, evk, evp, R.bind_ok, R.st_ok, R.opt_some, RS.thn_nx, RS.thn_rt, RS.turn_nx, RS.turn_rt, List.set, List.getElem?_cons_succ, List.getElem?_cons_zero, List.length_nil, List.length_cons, Nat.zero_le, if_true, Bool.false_eq_true, if_false, cl, V2.int?, dats, Bool.false_and, Bool.and_false, BI.calm, reduceIte, newL, sliceV, V2.lst?, hc, List.length_map]
    have hl : ns.length ≤ lim := by show ns.length ≤ 16777216; omega
    simp only [if_pos hl, itemsV, V2.seq?, R.bind_ok, R.st_ok, srcOf]
    simp only [cl] at e
    rw [e]
    simp only [RS.thn_nx, frzSlot, List.getElem?_cons_succ, List.getElem?_cons_zero, g1, List.map_cons, List.map_nil]
    simp [dats]
    rw [if_pos (show 6 ≤ lim by decide)]
    rfl
  simp only [runF, f__law_store, List.length_cons, List.length_nil, List.map_cons, List.map_nil]
  rw [if_pos (by decide)]
  show (execs (cl ld.pg false k) b__law_store [some (.val (.lst (ns.map D.int))), none, none, none] L).fin L.length = _
  rw [run]
  simp [RS.fin, retV]
def st6 (x : List D) (a b c d e : Int) : List D := [.lst x, .int a, .int b, .int c, .int d, .int e]
section
variable (x : List D) (a b c d e v : Int)
theorem at0 : L2.atI (st6 x a b c d e) 0 = some (.lst x) := rfl
theorem at1 : L2.atI (st6 x a b c d e) 1 = some (.int a) := rfl
theorem at2 : L2.atI (st6 x a b c d e) 2 = some (.int b) := rfl
theorem at3 : L2.atI (st6 x a b c d e) 3 = some (.int c) := rfl
theorem at4 : L2.atI (st6 x a b c d e) 4 = some (.int d) := rfl
theorem at5 : L2.atI (st6 x a b c d e) 5 = some (.int e) := rfl
theorem ln6 : (st6 x a b c d e).length = 6 := rfl
theorem pt1 : (st6 x a b c d e).set 1 (.int v) = st6 x v b c d e := rfl
theorem pt2 : (st6 x a b c d e).set 2 (.int v) = st6 x a v c d e := rfl
theorem pt3 : (st6 x a b c d e).set 3 (.int v) = st6 x a b v d e := rfl
theorem pt4 : (st6 x a b c d e).set 4 (.int v) = st6 x a b c v e := rfl
end
theorem ix1 : L2.ixN 6 1 = some 1 := rfl
theorem ix2 : L2.ixN 6 2 = some 2 := rfl
theorem ix3 : L2.ixN 6 3 = some 3 := rfl
theorem ix4 : L2.ixN 6 4 = some 4 := rfl
theorem at_cells {cells : List Int} {a : Int} (h0 : 0 ≤ a) (h1 : a < (cells.length : Int)) : ∃ v, L2.atI (cells.map D.int) a = some (.int v) := by
  have h2 : a.toNat < cells.length := by omega
  refine ⟨cells[a.toNat], ?_⟩
  unfold L2.atI L2.ixN
  rw [if_pos h0, List.length_map, if_pos h1]
  simp [h2]
/-- the drawing of a number -/
theorem c_take (k : Nat) (L : LH) (n : Nat) (st : List D) (many : Int) (hL : L[n]? = some (.lst st)) (hs : SO st) (hm : many < 1073741824) :
    ∃ st' r, SO st' ∧ 0 ≤ r ∧ (r < many ∨ r = 0) ∧ call ld.pg false (k + 2) 3 [.ref n, .val (.int many)] L = .ok (.val (.int r)) (L.set n (.lst st')) := by
  obtain ⟨cells, a, b, c, d, e, rfl, ha⟩ := hs
  have hL : L[n]? = some (.lst (st6 (cells.map D.int) a b c d e)) := hL
  have hn : n < L.length := (List.getElem?_eq_some_iff.mp hL).1
  have gs : ∀ x : LO, (L.set n x)[n]? = some x := fun x => List.getElem?_set_self hn
  have gt : ∀ x : LO, (L.set n x).take L.length = L.set n x := fun x => List.take_of_length_le (by simp)
  have mix : ∀ x y L, call ld.pg false (k + 1) 1 [.val (.int x), .val (.int y)] L = .ok (.val (.int (mixI x y))) L := fun x y L => c_mix k x y L
  have bnd : ∀ (x y : Int), ld.pg.bind 1 [.val (.int x), .val (.int y)] [] = some [.val (.int x), .val (.int y)] := fun x y => rfl
  rw [call_succ false (k + 1) 3 _ L f__law_take rfl]
  simp only [runF, f__law_take, List.length_cons, List.length_nil]
  rw [if_pos (by decide)]
  simp only [List.map_cons, List.map_nil, List.cons_append, List.nil_append, List.replicate]
  unfold b__law_take
  by_cases h1 : many ≤ 1
  · refine ⟨_, 0, ⟨cells, a, b, c, d, e, rfl, ha⟩, Int.le_refl _, .inr rfl, ?_⟩
    have : L.set n (.lst (st6 (cells.map D.int) a b c d e)) = L := by
      apply List.ext_getElem?
      intro i
      by_cases z : n = i
      · subst z; rw [List.getElem?_set_self hn, hL]
      · rw [List.getElem?_set_ne z]
    simp [execs, exec, evt, ev, evs, evk, evp, R.bind_ok, R.st_ok, R.opt_some, RS.thn_nx, RS.thn_rt, RS.turn_nx, RS.turn_rt, List.set, List.getElem?_cons_succ, List.getElem?_cons_zero, List.length_nil, List.length_cons, Nat.zero_le, if_true, Bool.false_eq_true, if_false, cl, V2.int?, dats, Bool.false_and, Bool.and_false, BI.calm, reduceIte, cmpR, cmpV, cmpLt, cmpInt, V2.truth, D.truth, h1, RS.fin, retV]
    exact this.symm
  · have hd : 0 < many ∧ many < 1073741824 := by omega
    have hd0 : 0 < many := hd.1
    by_cases h2 : 0 < b
    · refine ⟨st6 (cells.map D.int) a (b / many) c (d + 1) e, b % many, ⟨cells, a, _, c, _, e, rfl, ha⟩, Int.emod_nonneg _ (by omega), .inl (Int.emod_lt_of_pos _ (by omega)), ?_⟩
      simp [execs, exec, evt, ev, evs, evk, evp, R.bind_ok, R.st_ok, R.opt_some, RS.thn_nx, RS.thn_rt, RS.turn_nx, RS.turn_rt, List.set, List.getElem?_cons_succ, List.getElem?_cons_zero, List.length_nil, List.length_cons, Nat.zero_le, if_true, Bool.false_eq_true, if_false, cl, V2.int?, dats, Bool.false_and, Bool.and_false, BI.calm, reduceIte, cmpR, cmpV, cmpLt, cmpInt, V2.truth, D.truth, h1, h2, hd, hd0, RS.fin, retV, hL, gs, gt, subV, V2.seq?, V2.lst?, at0, at1, at2, at3, at4, at5, ln6, ix1, ix2, ix3, ix4, pt1, pt2, pt3, pt4, putV, binV, binInt, biV]
    · by_cases h3 : (cells.length : Int) ≤ a
      · refine ⟨st6 (cells.map D.int) a b c (d + 1) e, mixI e (d + 1) % many, ⟨cells, a, _, c, _, e, rfl, ha⟩, Int.emod_nonneg _ (by omega), .inl (Int.emod_lt_of_pos _ (by omega)), ?_⟩
        simp [execs, exec, evt, ev, evs, evk, evp, R.bind_ok, R.st_ok, R.opt_some, RS.thn_nx, RS.thn_rt, RS.turn_nx, RS.turn_rt, List.set, List.getElem?_cons_succ, List.getElem?_cons_zero, List.length_nil, List.length_cons, Nat.zero_le, if_true, Bool.false_eq_true, if_false, cl, V2.int?, dats, Bool.false_and, Bool.and_false, BI.calm, reduceIte, cmpR, cmpV, cmpLt, cmpInt, V2.truth, D.truth, h1, h2, h3, hd, hd0, RS.fin, retV, hL, gs, gt, subV, V2.seq?, V2.lst?, at0, at1, at2, at3, at4, at5, ln6, ix1, ix2, ix3, ix4, pt1, pt2, pt3, pt4, putV, binV, binInt, biV, mix, bnd, frzd]
      · obtain ⟨v, hv⟩ := at_cells (cells := cells) ha (by omega)
        by_cases h4 : 1000000000000000000 ≤ v
        · refine ⟨st6 (cells.map D.int) (a + 1) (v / many) c (d + 1) e, v % many, ⟨cells, a + 1, _, c, _, e, rfl, by omega⟩, Int.emod_nonneg _ (by omega), .inl (Int.emod_lt_of_pos _ (by omega)), ?_⟩
          simp [execs, exec, evt, ev, evs, evk, evp, R.bind_ok, R.st_ok, R.opt_some, RS.thn_nx, RS.thn_rt, RS.turn_nx, RS.turn_rt, List.set, List.getElem?_cons_succ, List.getElem?_cons_zero, List.length_nil, List.length_cons, Nat.zero_le, if_true, Bool.false_eq_true, if_false, cl, V2.int?, dats, Bool.false_and, Bool.and_false, BI.calm, reduceIte, cmpR, cmpV, cmpLt, cmpInt, V2.truth, D.truth, h1, h2, h3, h4, hv, hd, hd0, RS.fin, retV, hL, gs, gt, subV, V2.seq?, V2.lst?, at0, at1, at2, at3, at4, at5, ln6, ix1, ix2, ix3, ix4, pt1, pt2, pt3, pt4, putV, binV, binInt, biV, mix, bnd, frzd, powOk]
        · by_cases h5 : 4 ≤ c + 1
          · refine ⟨st6 (cells.map D.int) (a + 1) b 0 (d + 1) e, mixI v (d + 1) % many, ⟨cells, a + 1, _, _, _, e, rfl, by omega⟩, Int.emod_nonneg _ (by omega), .inl (Int.emod_lt_of_pos _ (by omega)), ?_⟩
            simp [execs, exec, evt, ev, evs, evk, evp, R.bind_ok, R.st_ok, R.opt_some, RS.thn_nx, RS.thn_rt, RS.turn_nx, RS.turn_rt, List.set, List.getElem?_cons_succ, List.getElem?_cons_zero, List.length_nil, List.length_cons, Nat.zero_le, if_true, Bool.false_eq_true, if_false, cl, V2.int?, dats, Bool.false_and, Bool.and_false, BI.calm, reduceIte, cmpR, cmpV, cmpLt, cmpInt, V2.truth, D.truth, h1, h2, h3, h4, h5, hv, hd, hd0, RS.fin, retV, hL, gs, gt, subV, V2.seq?, V2.lst?, at0, at1, at2, at3, at4, at5, ln6, ix1, ix2, ix3, ix4, pt1, pt2, pt3, pt4, putV, binV, binInt, biV, mix, bnd, frzd, powOk]
          · refine ⟨st6 (cells.map D.int) a b (c + 1) (d + 1) e, mixI v (d + 1) % many, ⟨cells, a, _, _, _, e, rfl, by omega⟩, Int.emod_nonneg _ (by omega), .inl (Int.emod_lt_of_pos _ (by omega)), ?_⟩
            simp [execs, exec, evt, ev, evs, evk, evp, R.bind_ok, R.st_ok, R.opt_some, RS.thn_nx, RS.thn_rt, RS.turn_nx, RS.turn_rt, List.set, List.getElem?_cons_succ, List.getElem?_cons_zero, List.length_nil, List.length_cons, Nat.zero_le, if_true, Bool.false_eq_true, if_false, cl, V2.int?, dats, Bool.false_and, Bool.and_false, BI.calm, reduceIte, cmpR, cmpV, cmpLt, cmpInt, V2.truth, D.truth, h1, h2, h3, h4, h5, hv, hd, hd0, RS.fin, retV, hL, gs, gt, subV, V2.seq?, V2.lst?, at0, at1, at2, at3, at4, at5, ln6, ix1, ix2, ix3, ix4, pt1, pt2, pt3, pt4, putV, binV, binInt, biV, mix, bnd, frzd, powOk]
end Lw

set_option maxRecDepth 100000
set_option maxHeartbeats 4000000
namespace Lw
open PI
section
variable (i j : Int) (L : LH)
theorem cmpR_eq : cmpR .eq (.val (.int i)) (.val (.int j)) L = .ok (.val (.bl (decide (i = j)))) L := by
  have : (i == j) = decide (i = j) := rfl
  simp [cmpR, cmpV, cmpEq, V2.view, okd, D.okd, D.eqv, this]
theorem cmpR_ne : cmpR .ne (.val (.int i)) (.val (.int j)) L = .ok (.val (.bl (!decide (i = j)))) L := by
  have : (i == j) = decide (i = j) := rfl
  simp [cmpR, cmpV, cmpEq, V2.view, okd, D.okd, D.eqv, this]
theorem cmpR_lt : cmpR .lt (.val (.int i)) (.val (.int j)) L = .ok (.val (.bl (decide (i < j)))) L := rfl
theorem cmpR_le : cmpR .le (.val (.int i)) (.val (.int j)) L = .ok (.val (.bl (decide (i ≤ j)))) L := rfl
theorem cmpR_gt : cmpR .gt (.val (.int i)) (.val (.int j)) L = .ok (.val (.bl (decide (j < i)))) L := rfl
theorem cmpR_ge : cmpR .ge (.val (.int i)) (.val (.int j)) L = .ok (.val (.bl (decide (j ≤ i)))) L := rfl
theorem tr_bl (b : Bool) : V2.truth L (.val (.bl b)) = some b := rfl
end
/-- the cells stand at n -/
def Sto (L : LH) (n : Nat) : Prop := ∃ st, L[n]? = some (.lst st) ∧ SO st
/-- but for the cells as before -/
def Near (n : Nat) (L L' : LH) : Prop := ∃ st, SO st ∧ L' = L.set n (.lst st)
theorem Sto.lt {L : LH} {n : Nat} (h : Sto L n) : n < L.length := let ⟨_, e, _⟩ := h; (List.getElem?_eq_some_iff.mp e).1
theorem Near.sto {L L' : LH} {n : Nat} (h : Near n L L') (hn : n < L.length) : Sto L' n := let ⟨st, a, b⟩ := h; ⟨st, by rw [b]; exact List.getElem?_set_self hn, a⟩
theorem Near.len {L L' : LH} {n : Nat} (h : Near n L L') : L'.length = L.length := by obtain ⟨st, a, rfl⟩ := h; simp
theorem Near.trans {L L1 L2 : LH} {n : Nat} (a : Near n L L1) (b : Near n L1 L2) : Near n L L2 := by
  obtain ⟨s1, a1, rfl⟩ := a
  obtain ⟨s2, a2, rfl⟩ := b
  exact ⟨s2, a2, by rw [List.set_set]⟩
theorem Near.refl {L : LH} {n : Nat} (h : Sto L n) : Near n L L := by
  obtain ⟨st, e, q⟩ := h
  refine ⟨st, q, ?_⟩
  have hn := (List.getElem?_eq_some_iff.mp e).1
  apply List.ext_getElem?
  intro i
  by_cases z : n = i
  · subst z; rw [List.getElem?_set_self hn, e]
  · rw [List.getElem?_set_ne z]
theorem Near.other {L L' : LH} {n i : Nat} (h : Near n L L') (hi : n ≠ i) : L'[i]? = L[i]? := by obtain ⟨st, a, rfl⟩ := h; rw [List.getElem?_set_ne hi]
theorem Near.take {L L' : LH} {n : Nat} (h : Near n L L') : L'.take L.length = L' := List.take_of_length_le (by rw [h.len]; exact Nat.le_refl _)
theorem take' (k : Nat) {L : LH} {n : Nat} (h : Sto L n) {many : Int} (hm : many < 1073741824) : ∃ r L', call ld.pg false (k + 2) 3 [.ref n, .val (.int many)] L = .ok (.val (.int r)) L' ∧ Near n L L' ∧ 0 ≤ r ∧ (r < many ∨ r = 0) := by
  obtain ⟨st, e, q⟩ := h
  obtain ⟨st', r, a, b, c, d⟩ := c_take k L n st many e q hm
  exact ⟨r, _, d, ⟨st', a, rfl⟩, b, c⟩
theorem bnd3 (n : Nat) (m : Int) : ld.pg.bind 3 [.ref n, .val (.int m)] [] = some [.ref n, .val (.int m)] := rfl
theorem bnd4 (n : Nat) (x : V2) : ld.pg.bind 4 [.ref n, x] [] = some [.ref n, x] := rfl
theorem bnd5 (n : Nat) (a b : V2) : ld.pg.bind 5 [.ref n, a, b] [] = some [.ref n, a, b] := rfl
theorem bnd7 : ld.pg.bind 7 [] [] = some [] := rfl
theorem bnd8 : ld.pg.bind 8 [] [] = some [] := rfl
theorem bnd9 (n : Nat) : ld.pg.bind 9 [.ref n] [] = some [.ref n] := rfl
theorem bnd10 (n : Nat) : ld.pg.bind 10 [.ref n] [] = some [.ref n] := rfl
theorem bnd11 (n : Nat) : ld.pg.bind 11 [.ref n] [] = some [.ref n] := rfl
/-- one of a text's signs -/
theorem c_pick (k : Nat) {L : LH} {n : Nat} (h : Sto L n) (s : List Nat) (h0 : s ≠ []) (h1 : s.length < 1000) : ∃ c L', c ∈ s ∧ Near n L L' ∧ call ld.pg false (k + 3) 4 [.ref n, .val (.str s)] L = .ok (.val (.str [c])) L' := by
  obtain ⟨r, L', e, nr, r0, r1⟩ := take' k h (many := s.length) (by omega)
  have hl : 0 < s.length := List.length_pos_iff.mpr h0
  have hr : r < (s.length : Int) := by omega
  have hb : r.toNat < s.length := by omega
  refine ⟨s[r.toNat], L', List.getElem_mem .., nr, ?_⟩
  have ha : L2.atI s r = some s[r.toNat] := by
    unfold L2.atI L2.ixN
    rw [if_pos r0, if_pos hr]
    simp [hb]
  rw [call_succ false (k + 2) 4 _ L f__law_pick rfl]
  simp [runF, f__law_pick, b__law_pick, execs, exec, evt, ev, evs, evk, evp, R.bind_ok, R.st_ok, R.opt_some, RS.thn_nx, RS.thn_rt, RS.turn_nx, RS.turn_rt, List.set, List.getElem?_cons_succ, List.getElem?_cons_zero, List.length_nil, List.length_cons, Nat.zero_le, if_true, Bool.false_eq_true, if_false, cl, V2.int?, dats, Bool.false_and, Bool.and_false, BI.calm, reduceIte, biV, bnd3, e, frzd, subV, ha, RS.fin, retV, nr.take]
/-- how many -/
theorem c_many (k : Nat) {L : LH} {n : Nat} (h : Sto L n) (least bound : Int) (hb : bound - least < 1000) : ∃ r L', Near n L L' ∧ least ≤ r ∧ (r ≤ bound ∨ r = least) ∧ call ld.pg false (k + 3) 5 [.ref n, .val (.int least), .val (.int bound)] L = .ok (.val (.int r)) L' := by
  obtain ⟨kind, L1, e, nr, r0, r1⟩ := take' k h (many := 6) (by omega)
  rw [call_succ false (k + 2) 5 _ L f__law_many rfl]
  by_cases h1 : kind = 0
  · exact ⟨least, L1, nr, Int.le_refl _, .inr rfl, by simp [runF, f__law_many, b__law_many, execs, exec, evt, ev, evs, evk, evp, R.bind_ok, R.st_ok, R.opt_some, RS.thn_nx, RS.thn_rt, RS.turn_nx, RS.turn_rt, List.set, List.getElem?_cons_succ, List.getElem?_cons_zero, List.length_nil, List.length_cons, Nat.zero_le, if_true, Bool.false_eq_true, if_false, cl, V2.int?, dats, Bool.false_and, Bool.and_false, BI.calm, reduceIte, cmpR_eq, cmpR_ne, cmpR_lt, cmpR_le, cmpR_gt, cmpR_ge, tr_bl, bnd3, e, frzd, h1, RS.fin, retV, nr.take]⟩
  · by_cases h2 : bound ≤ least
    · exact ⟨least, L1, nr, Int.le_refl _, .inr rfl, by simp [runF, f__law_many, b__law_many, execs, exec, evt, ev, evs, evk, evp, R.bind_ok, R.st_ok, R.opt_some, RS.thn_nx, RS.thn_rt, RS.turn_nx, RS.turn_rt, List.set, List.getElem?_cons_succ, List.getElem?_cons_zero, List.length_nil, List.length_cons, Nat.zero_le, if_true, Bool.false_eq_true, if_false, cl, V2.int?, dats, Bool.false_and, Bool.and_false, BI.calm, reduceIte, cmpR_eq, cmpR_ne, cmpR_lt, cmpR_le, cmpR_gt, cmpR_ge, tr_bl, bnd3, e, frzd, h1, h2, RS.fin, retV, nr.take]⟩
    · by_cases h3 : kind = 1
      · exact ⟨bound, L1, nr, by omega, .inl (Int.le_refl _), by simp [runF, f__law_many, b__law_many, execs, exec, evt, ev, evs, evk, evp, R.bind_ok, R.st_ok, R.opt_some, RS.thn_nx, RS.thn_rt, RS.turn_nx, RS.turn_rt, List.set, List.getElem?_cons_succ, List.getElem?_cons_zero, List.length_nil, List.length_cons, Nat.zero_le, if_true, Bool.false_eq_true, if_false, cl, V2.int?, dats, Bool.false_and, Bool.and_false, BI.calm, reduceIte, cmpR_eq, cmpR_ne, cmpR_lt, cmpR_le, cmpR_gt, cmpR_ge, tr_bl, bnd3, e, frzd, h2, h3, RS.fin, retV, nr.take]⟩
      · by_cases h4 : kind = 2
        · exact ⟨least + 1, L1, nr, by omega, .inl (by omega), by simp [runF, f__law_many, b__law_many, execs, exec, evt, ev, evs, evk, evp, R.bind_ok, R.st_ok, R.opt_some, RS.thn_nx, RS.thn_rt, RS.turn_nx, RS.turn_rt, List.set, List.getElem?_cons_succ, List.getElem?_cons_zero, List.length_nil, List.length_cons, Nat.zero_le, if_true, Bool.false_eq_true, if_false, cl, V2.int?, dats, Bool.false_and, Bool.and_false, BI.calm, reduceIte, cmpR_eq, cmpR_ne, cmpR_lt, cmpR_le, cmpR_gt, cmpR_ge, tr_bl, bnd3, e, frzd, h2, h4, RS.fin, retV, nr.take, binV, binInt]⟩
        · obtain ⟨q, L2, e2, nr2, q0, q1⟩ := take' k (nr.sto h.lt) (many := bound - least + 1) (by omega)
          have nr3 := nr.trans nr2
          exact ⟨least + q, L2, nr3, by omega, .inl (by omega), by simp [runF, f__law_many, b__law_many, execs, exec, evt, ev, evs, evk, evp, R.bind_ok, R.st_ok, R.opt_some, RS.thn_nx, RS.thn_rt, RS.turn_nx, RS.turn_rt, List.set, List.getElem?_cons_succ, List.getElem?_cons_zero, List.length_nil, List.length_cons, Nat.zero_le, if_true, Bool.false_eq_true, if_false, cl, V2.int?, dats, Bool.false_and, Bool.and_false, BI.calm, reduceIte, cmpR_eq, cmpR_ne, cmpR_lt, cmpR_le, cmpR_gt, cmpR_ge, tr_bl, bnd3, e, e2, frzd, h1, h2, h3, h4, RS.fin, retV, nr3.take, binV, binInt]⟩
def lets : List Nat := [97, 98, 99, 100, 101, 102, 103, 104, 105, 106, 107, 108, 109, 110, 111, 112, 113, 114, 115, 116, 117, 118, 119, 120, 121, 122]
theorem c_letters (k : Nat) (L : LH) : call ld.pg false (k + 1) 7 [] L = .ok (.val (.str lets)) L := by
  rw [call_succ false k 7 _ L f__law_letters rfl]
  simp [runF, f__law_letters, b__law_letters, execs, exec, evt, ev, evs, evk, evp, R.bind_ok, R.st_ok, R.opt_some, RS.thn_nx, RS.thn_rt, RS.turn_nx, RS.turn_rt, List.set, List.getElem?_cons_succ, List.getElem?_cons_zero, List.length_nil, List.length_cons, Nat.zero_le, if_true, Bool.false_eq_true, if_false, cl, V2.int?, dats, Bool.false_and, Bool.and_false, BI.calm, reduceIte, RS.fin, retV, lets]
def signs : List Nat := [32, 33, 34, 35, 36, 38, 39, 40, 41, 42, 43, 44, 45, 46, 47, 48, 49, 50, 51, 52, 53, 54, 55, 56, 57, 58, 59, 60, 61, 62, 63, 64, 65, 66, 67, 68, 69, 70, 71, 72, 73, 74, 75, 76, 77, 78, 79, 80, 81, 82, 83, 84, 85, 86, 87, 88, 89, 90, 91, 92, 93, 94, 95, 96, 123, 124, 125, 126]
theorem c_signs (k : Nat) (L : LH) : call ld.pg false (k + 1) 8 [] L = .ok (.val (.str signs)) L := by
  rw [call_succ false k 8 _ L f__law_signs rfl]
  simp [runF, f__law_signs, b__law_signs, execs, exec, evt, ev, evs, evk, evp, R.bind_ok, R.st_ok, R.opt_some, RS.thn_nx, RS.thn_rt, RS.turn_nx, RS.turn_rt, List.set, List.getElem?_cons_succ, List.getElem?_cons_zero, List.length_nil, List.length_cons, Nat.zero_le, if_true, Bool.false_eq_true, if_false, cl, V2.int?, dats, Bool.false_and, Bool.and_false, BI.calm, reduceIte, RS.fin, retV, signs, binV, newS, lim]
/-- a good name -/
theorem c_name (k : Nat) {L : LH} {n : Nat} (h : Sto L n) : ∃ s L', Near n L L' ∧ s ≠ [] ∧ s.length ≤ 6 ∧ (∀ c ∈ s, c ∈ lets) ∧ call ld.pg false (k + 4) 9 [.ref n] L = .ok (.val (.str s)) L' := by
  obtain ⟨r, L1, nr, r0, r1, e⟩ := c_many k h 1 6 (by omega)
  have hd : (range2 0 r).length = r.toNat := by simp [range2]
  have loop := for_all (body := fun s' L' => execs (cl ld.pg false (k + 3)) p__law_name_1 s' L') (tg := .nm 2) (src := none) (ds := range2 0 r)
    (fun i sl L' => ∃ (s : List Nat) (c : Option V2), sl = [some (.ref n), some (.val (.str s)), c] ∧ Near n L L' ∧ s.length = i ∧ ∀ c ∈ s, c ∈ lets)
    (fun _ _ _ _ _ => trivial) (fun i x sl L' hx ⟨s, c, e1, e2, e3, e4⟩ => by
      obtain ⟨c', L2, hc, nr2, e5⟩ := c_pick k (e2.sto h.lt) lets (by decide) (by decide)
      have hi : i < r.toNat := by rw [← hd]; exact (List.getElem?_eq_some_iff.mp hx).1
      have hl : (s ++ [c']).length ≤ lim := by rw [List.length_append, e3]; show i + 1 ≤ 16777216; omega
      refine ⟨_, rfl, _, _, ?_, s ++ [c'], some (.val x), rfl, e2.trans nr2, by simp [e3], fun z hz => ?_⟩
      · subst e1
        simp only [p__law_name_1, execs, exec, evt, ev, evs, evk, evp, R.bind_ok, R.st_ok, R.opt_some, RS.thn_nx, RS.thn_rt, RS.turn_nx, RS.turn_rt, List.set, List.getElem?_cons_succ, List.getElem?_cons_zero, List.length_nil, List.length_cons, Nat.zero_le, if_true, Bool.false_eq_true, if_false, cl, V2.int?, dats, Bool.false_and, Bool.and_false, BI.calm, reduceIte, bnd7, bnd4, c_letters, frzd, e5, binV, newS, if_pos hl]
      · rcases List.mem_append.mp hz with z1 | z1
        · exact e4 z z1
        · rw [List.mem_singleton.mp z1]; exact hc)
    r.toNat 0 [some (.ref n), some (.val (.str [])), none] L1 (by rw [hd]; omega) (by omega) ⟨[], none, rfl, nr, rfl, by simp⟩
  obtain ⟨sl2, L2, e2, s, c, rfl, nr2, hs, hc⟩ := loop
  rw [List.drop_zero] at e2
  refine ⟨s, L2, nr2, fun z => ?_, by rw [hs, hd]; omega, hc, ?_⟩
  · rw [z, hd] at hs
    simp at hs
    omega
  rw [call_succ false (k + 3) 9 _ L f__law_name rfl]
  simp only [cl] at e2
  have hb1 : (-4611686018427387904 : Int) ≤ r := by omega
  have hb2 : r < 4611686018427387904 := by omega
  simp [runF, f__law_name, b__law_name, execs, exec, evt, ev, evs, evk, evp, R.bind_ok, R.st_ok, R.opt_some, RS.thn_nx, RS.thn_rt, RS.turn_nx, RS.turn_rt, List.set, List.getElem?_cons_succ, List.getElem?_cons_zero, List.length_nil, List.length_cons, Nat.zero_le, if_true, Bool.false_eq_true, if_false, cl, V2.int?, dats, Bool.false_and, Bool.and_false, BI.calm, reduceIte, bnd5, e, frzd, itemsV, srcOf, hb1, hb2, e2, RS.fin, retV, nr2.take]
end Lw

set_option maxRecDepth 100000
set_option maxHeartbeats 4000000
namespace Lw
open PI
theorem rep_len (s : List Nat) (m : Nat) : (rep s (m : Int)).length = m * s.length := by
  unfold rep
  simp
theorem at_some {α : Type} {s : List α} {i : Int} (h0 : 0 ≤ i) (h1 : i < (s.length : Int)) : ∃ c ∈ s, L2.atI s i = some c := by
  have hb : i.toNat < s.length := by omega
  refine ⟨s[i.toNat], List.getElem_mem .., ?_⟩
  unfold L2.atI L2.ixN
  rw [if_pos h0, if_pos h1]
  simp [hb]
theorem lets_lt : ∀ c ∈ lets, c < 128 := by decide
/-- a bad name -/
theorem c_bad (k : Nat) {L : LH} {n : Nat} (h : Sto L n) : ∃ s L', Near n L L' ∧ s.length ≤ 100 ∧ call ld.pg false (k + 5) 10 [.ref n] L = .ok (.val (.str s)) L' := by
  obtain ⟨s, L1, n1, s0, s1, s2, e1⟩ := c_name k h
  obtain ⟨kind, L2, e2, n2, r0, r1⟩ := take' (k + 2) (n1.sto h.lt) (many := 6) (by omega)
  have N2 := n1.trans n2
  obtain ⟨at_, L3, e3, n3, t0, t1⟩ := take' (k + 2) (N2.sto h.lt) (many := (s.length : Int)) (by omega)
  have N3 := N2.trans n3
  have hl : 0 < s.length := List.length_pos_iff.mpr s0
  have t2 : at_ < (s.length : Int) := by omega
  obtain ⟨c, L4, hc, n4, e4⟩ := c_pick (k + 1) (N3.sto h.lt) signs (by decide) (by decide)
  have N4 := N3.trans n4
  have e8 : ∀ L, call ld.pg false (k + 4) 8 [] L = .ok (.val (.str signs)) L := fun L => c_signs (k + 3) L
  have cl1 : ∀ lo hi, (cutD s lo hi).length ≤ 6 := fun lo hi => Nat.le_trans (cut_len s lo hi) s1
  rw [call_succ false (k + 4) 10 _ L f__law_bad_place rfl]
  by_cases h0 : kind = 0
  · exact ⟨[], L4, N4, by simp, by simp [runF, execs, exec, evt, ev, evs, evk, evp, R.bind_ok, R.st_ok, R.opt_some, RS.thn_nx, RS.thn_rt, RS.turn_nx, RS.turn_rt, List.set, List.getElem?_cons_succ, List.getElem?_cons_zero, List.length_nil, List.length_cons, Nat.zero_le, if_true, Bool.false_eq_true, if_false, cl, Bool.false_and, Bool.and_false, BI.calm, reduceIte, z_eq, z_ne, z_lt, z_le, z_gt, z_ge, z_isN, z_isbN, z_isbb, z_tb, z_add, z_sub, z_adds, z_muls, z_slS, z_int, z_len, z_lenL, z_intI, z_frz, z_frzO, z_d0, z_d1, z_cnt, z_tyU, z_tyC, z_finV, f__law_bad_place, b__law_bad_place, bnd9, bnd3, bnd4, bnd8, e1, e2, e3, e4, e8, h0, N4.take]⟩
  · by_cases h1 : kind = 1
    · obtain ⟨q, L5, e5, n5, q0, q1⟩ := take' (k + 2) (N4.sto h.lt) (many := 6) (by omega)
      have N5 := N4.trans n5
      have hr : (rep s 12).length ≤ 72 := by
        have h12 : (rep s 12).length = 12 * s.length := rep_len s 12
        rw [h12]
        omega
      have hm : ∀ L : LH, newS (rep s 12) L = .ok (.val (.str (rep s 12))) L := fun L => z_newS _ _ (by omega)
      exact ⟨cutD (rep s 12) none (some (7 + q)), L5, N5, Nat.le_trans (cut_len _ _ _) (by omega), by simp [runF, execs, exec, evt, ev, evs, evk, evp, R.bind_ok, R.st_ok, R.opt_some, RS.thn_nx, RS.thn_rt, RS.turn_nx, RS.turn_rt, List.set, List.getElem?_cons_succ, List.getElem?_cons_zero, List.length_nil, List.length_cons, Nat.zero_le, if_true, Bool.false_eq_true, if_false, cl, Bool.false_and, Bool.and_false, BI.calm, reduceIte, z_eq, z_ne, z_lt, z_le, z_gt, z_ge, z_isN, z_isbN, z_isbb, z_tb, z_add, z_sub, z_adds, z_muls, z_slS, z_int, z_len, z_lenL, z_intI, z_frz, z_frzO, z_d0, z_d1, z_cnt, z_tyU, z_tyC, z_finV, f__law_bad_place, b__law_bad_place, bnd9, bnd3, bnd4, bnd8, e1, e2, e3, e4, e8, e5, h1, N5.take, kOk, hm]⟩
    · by_cases h2 : kind = 2
      · obtain ⟨d, hd, ha⟩ := at_some t0 t2
        have hd2 := lets_lt d (s2 d hd)
        have c1 := cl1 none (some at_)
        have c2 := cl1 (some (at_ + 1)) none
        have m1 : ∀ L : LH, newS (cutD s none (some at_) ++ upper [d]) L = .ok (.val (.str (cutD s none (some at_) ++ upper [d]))) L := fun L => z_newS _ _ (by simp [upper]; omega)
        have m2 : ∀ L : LH, newS (cutD s none (some at_) ++ upper [d] ++ cutD s (some (at_ + 1)) none) L = .ok (.val (.str (cutD s none (some at_) ++ upper [d] ++ cutD s (some (at_ + 1)) none))) L := fun L => z_newS _ _ (by simp [upper]; omega)
        exact ⟨cutD s none (some at_) ++ upper [d] ++ cutD s (some (at_ + 1)) none, L4, N4, by simp [upper]; omega, by simp [runF, execs, exec, evt, ev, evs, evk, evp, R.bind_ok, R.st_ok, R.opt_some, RS.thn_nx, RS.thn_rt, RS.turn_nx, RS.turn_rt, List.set, List.getElem?_cons_succ, List.getElem?_cons_zero, List.length_nil, List.length_cons, Nat.zero_le, if_true, Bool.false_eq_true, if_false, cl, Bool.false_and, Bool.and_false, BI.calm, reduceIte, z_eq, z_ne, z_lt, z_le, z_gt, z_ge, z_isN, z_isbN, z_isbb, z_tb, z_add, z_sub, z_adds, z_muls, z_slS, z_int, z_len, z_lenL, z_intI, z_frz, z_frzO, z_d0, z_d1, z_cnt, z_tyU, z_tyC, z_finV, f__law_bad_place, b__law_bad_place, bnd9, bnd3, bnd4, bnd8, e1, e2, e3, e4, e8, h2, N4.take, -List.append_assoc, m1, m2, z_subS _ _ _ _ ha, z_up _ _ _ hd2]⟩
      · by_cases h3 : kind = 3
        · obtain ⟨q, L5, e5, n5, q0, q1⟩ := take' (k + 2) (N4.sto h.lt) (many := 2) (by omega)
          have N5 := N4.trans n5
          have m1 : ∀ L : LH, newS (32 :: s) L = .ok (.val (.str (32 :: s))) L := fun L => z_newS _ _ (by simp; omega)
          have m2 : ∀ L : LH, newS (s ++ [32]) L = .ok (.val (.str (s ++ [32]))) L := fun L => z_newS _ _ (by simp; omega)
          have m3 : ∀ L : LH, newL false [.str (32 :: s), .str (s ++ [32])] L = .ok (.val (.lst [.str (32 :: s), .str (s ++ [32])])) L := fun L => z_newL _ _ (by simp)
          have hq : q = 0 ∨ q = 1 := by omega
          rcases hq with rfl | rfl
          · exact ⟨32 :: s, L5, N5, by simp; omega, by simp [runF, execs, exec, evt, ev, evs, evk, evp, R.bind_ok, R.st_ok, R.opt_some, RS.thn_nx, RS.thn_rt, RS.turn_nx, RS.turn_rt, List.set, List.getElem?_cons_succ, List.getElem?_cons_zero, List.length_nil, List.length_cons, Nat.zero_le, if_true, Bool.false_eq_true, if_false, cl, Bool.false_and, Bool.and_false, BI.calm, reduceIte, z_eq, z_ne, z_lt, z_le, z_gt, z_ge, z_isN, z_isbN, z_isbb, z_tb, z_add, z_sub, z_adds, z_muls, z_slS, z_int, z_len, z_lenL, z_intI, z_frz, z_frzO, z_d0, z_d1, z_cnt, z_tyU, z_tyC, z_finV, f__law_bad_place, b__law_bad_place, bnd9, bnd3, bnd4, bnd8, e1, e2, e3, e4, e8, e5, h3, N5.take, m1, m2, m3, z_subL 0 L5 (.str (32 :: s)) [.str (32 :: s), .str (s ++ [32])] rfl]⟩
          · exact ⟨s ++ [32], L5, N5, by simp; omega, by simp [runF, execs, exec, evt, ev, evs, evk, evp, R.bind_ok, R.st_ok, R.opt_some, RS.thn_nx, RS.thn_rt, RS.turn_nx, RS.turn_rt, List.set, List.getElem?_cons_succ, List.getElem?_cons_zero, List.length_nil, List.length_cons, Nat.zero_le, if_true, Bool.false_eq_true, if_false, cl, Bool.false_and, Bool.and_false, BI.calm, reduceIte, z_eq, z_ne, z_lt, z_le, z_gt, z_ge, z_isN, z_isbN, z_isbb, z_tb, z_add, z_sub, z_adds, z_muls, z_slS, z_int, z_len, z_lenL, z_intI, z_frz, z_frzO, z_d0, z_d1, z_cnt, z_tyU, z_tyC, z_finV, f__law_bad_place, b__law_bad_place, bnd9, bnd3, bnd4, bnd8, e1, e2, e3, e4, e8, e5, h3, N5.take, m1, m2, m3, z_subL 1 L5 (.str (s ++ [32])) [.str (32 :: s), .str (s ++ [32])] rfl]⟩
        · have c1 := cl1 none (some at_)
          have m1 : ∀ L : LH, newS (cutD s none (some at_) ++ [c]) L = .ok (.val (.str (cutD s none (some at_) ++ [c]))) L := fun L => z_newS _ _ (by simp; omega)
          by_cases h4 : kind = 4
          · have c2 := cl1 (some (at_ + 1)) none
            have m2 : ∀ L : LH, newS (cutD s none (some at_) ++ [c] ++ cutD s (some (at_ + 1)) none) L = .ok (.val (.str (cutD s none (some at_) ++ [c] ++ cutD s (some (at_ + 1)) none))) L := fun L => z_newS _ _ (by simp; omega)
            exact ⟨cutD s none (some at_) ++ [c] ++ cutD s (some (at_ + 1)) none, L4, N4, by simp; omega, by simp [runF, execs, exec, evt, ev, evs, evk, evp, R.bind_ok, R.st_ok, R.opt_some, RS.thn_nx, RS.thn_rt, RS.turn_nx, RS.turn_rt, List.set, List.getElem?_cons_succ, List.getElem?_cons_zero, List.length_nil, List.length_cons, Nat.zero_le, if_true, Bool.false_eq_true, if_false, cl, Bool.false_and, Bool.and_false, BI.calm, reduceIte, z_eq, z_ne, z_lt, z_le, z_gt, z_ge, z_isN, z_isbN, z_isbb, z_tb, z_add, z_sub, z_adds, z_muls, z_slS, z_int, z_len, z_lenL, z_intI, z_frz, z_frzO, z_d0, z_d1, z_cnt, z_tyU, z_tyC, z_finV, f__law_bad_place, b__law_bad_place, bnd9, bnd3, bnd4, bnd8, e1, e2, e3, e4, e8, h4, N4.take, -List.append_assoc, m1, m2]⟩
          · have c2 := cl1 (some at_) none
            have m2 : ∀ L : LH, newS (cutD s none (some at_) ++ [c] ++ cutD s (some at_) none) L = .ok (.val (.str (cutD s none (some at_) ++ [c] ++ cutD s (some at_) none))) L := fun L => z_newS _ _ (by simp; omega)
            exact ⟨cutD s none (some at_) ++ [c] ++ cutD s (some at_) none, L4, N4, by simp; omega, by simp [runF, execs, exec, evt, ev, evs, evk, evp, R.bind_ok, R.st_ok, R.opt_some, RS.thn_nx, RS.thn_rt, RS.turn_nx, RS.turn_rt, List.set, List.getElem?_cons_succ, List.getElem?_cons_zero, List.length_nil, List.length_cons, Nat.zero_le, if_true, Bool.false_eq_true, if_false, cl, Bool.false_and, Bool.and_false, BI.calm, reduceIte, z_eq, z_ne, z_lt, z_le, z_gt, z_ge, z_isN, z_isbN, z_isbb, z_tb, z_add, z_sub, z_adds, z_muls, z_slS, z_int, z_len, z_lenL, z_intI, z_frz, z_frzO, z_d0, z_d1, z_cnt, z_tyU, z_tyC, z_finV, f__law_bad_place, b__law_bad_place, bnd9, bnd3, bnd4, bnd8, e1, e2, e3, e4, e8, h0, h1, h2, h3, h4, N4.take, -List.append_assoc, m1, m2]⟩
end Lw

set_option maxRecDepth 100000
set_option maxHeartbeats 4000000
namespace Lw
open PI
/-- a name of any kind -/
theorem c_raw (k : Nat) {L : LH} {n : Nat} (h : Sto L n) : ∃ s L', Near n L L' ∧ s.length ≤ 100 ∧ call ld.pg false (k + 6) 11 [.ref n] L = .ok (.val (.str s)) L' := by
  obtain ⟨kind, L1, e1, n1, r0, r1⟩ := take' (k + 3) h (many := 4) (by omega)
  rw [call_succ false (k + 5) 11 _ L f__law_raw_place rfl]
  by_cases h0 : kind < 2
  · obtain ⟨s, L2, n2, s0, s1, s2, e2⟩ := c_name (k + 1) (n1.sto h.lt)
    have N2 := n1.trans n2
    exact ⟨s, L2, N2, by omega, by simp [runF, execs, exec, evt, ev, evs, evk, evp, R.bind_ok, R.st_ok, R.opt_some, RS.thn_nx, RS.thn_rt, RS.turn_nx, RS.turn_rt, List.set, List.getElem?_cons_succ, List.getElem?_cons_zero, List.length_nil, List.length_cons, Nat.zero_le, if_true, Bool.false_eq_true, if_false, cl, Bool.false_and, Bool.and_false, BI.calm, reduceIte, z_eq, z_ne, z_lt, z_le, z_gt, z_ge, z_isN, z_isbN, z_isbb, z_tb, z_add, z_sub, z_adds, z_muls, z_slS, z_int, z_len, z_lenL, z_intI, z_frz, z_frzO, z_d0, z_d1, z_cnt, z_tyU, z_tyC, z_finV, f__law_raw_place, b__law_raw_place, bnd3, bnd9, e1, e2, h0, N2.take]⟩
  · by_cases h1 : kind = 2
    · obtain ⟨s, L2, n2, s1, e2⟩ := c_bad k (n1.sto h.lt)
      have N2 := n1.trans n2
      exact ⟨s, L2, N2, s1, by simp [runF, execs, exec, evt, ev, evs, evk, evp, R.bind_ok, R.st_ok, R.opt_some, RS.thn_nx, RS.thn_rt, RS.turn_nx, RS.turn_rt, List.set, List.getElem?_cons_succ, List.getElem?_cons_zero, List.length_nil, List.length_cons, Nat.zero_le, if_true, Bool.false_eq_true, if_false, cl, Bool.false_and, Bool.and_false, BI.calm, reduceIte, z_eq, z_ne, z_lt, z_le, z_gt, z_ge, z_isN, z_isbN, z_isbb, z_tb, z_add, z_sub, z_adds, z_muls, z_slS, z_int, z_len, z_lenL, z_intI, z_frz, z_frzO, z_d0, z_d1, z_cnt, z_tyU, z_tyC, z_finV, f__law_raw_place, b__law_raw_place, bnd3, bnd10, e1, e2, h1, N2.take]⟩
    · obtain ⟨r, L2, n2, q0, q1, e2⟩ := c_many (k + 2) (n1.sto h.lt) 0 12 (by omega)
      have N2 := n1.trans n2
      have e7 : ∀ L, call ld.pg false (k + 5) 7 [] L = .ok (.val (.str lets)) L := fun L => c_letters (k + 4) L
      have e8 : ∀ L, call ld.pg false (k + 5) 8 [] L = .ok (.val (.str signs)) L := fun L => c_signs (k + 4) L
      have hd : (range2 0 r).length = r.toNat := by simp [range2]
      have loop := for_all (body := fun s' L' => execs (cl ld.pg false (k + 5)) p__law_raw_place_1 s' L') (tg := .nm 4) (src := none) (ds := range2 0 r)
        (fun i sl L' => ∃ (s : List Nat) (c : Option V2), sl = [some (.ref n), some (.val (.int kind)), some (.val (.str (lets ++ signs))), some (.val (.str s)), c] ∧ Near n L L' ∧ s.length = i)
        (fun _ _ _ _ _ => trivial) (fun i x sl L' hx ⟨s, c, z1, z2, z3⟩ => by
          obtain ⟨c', L3, hc, n3, e5⟩ := c_pick (k + 2) (z2.sto h.lt) (lets ++ signs) (by decide) (by decide)
          have hi : i < r.toNat := by rw [← hd]; exact (List.getElem?_eq_some_iff.mp hx).1
          have hl : ∀ L : LH, newS (s ++ [c']) L = .ok (.val (.str (s ++ [c']))) L := fun L => z_newS _ _ (by simp; omega)
          refine ⟨_, rfl, _, _, ?_, s ++ [c'], some (.val x), rfl, z2.trans n3, by simp [z3]⟩
          subst z1
          simp [p__law_raw_place_1, runF, execs, exec, evt, ev, evs, evk, evp, R.bind_ok, R.st_ok, R.opt_some, RS.thn_nx, RS.thn_rt, RS.turn_nx, RS.turn_rt, List.set, List.getElem?_cons_succ, List.getElem?_cons_zero, List.length_nil, List.length_cons, Nat.zero_le, if_true, Bool.false_eq_true, if_false, cl, Bool.false_and, Bool.and_false, BI.calm, reduceIte, z_eq, z_ne, z_lt, z_le, z_gt, z_ge, z_isN, z_isbN, z_isbb, z_tb, z_add, z_sub, z_adds, z_muls, z_slS, z_int, z_len, z_lenL, z_intI, z_frz, z_frzO, z_d0, z_d1, z_cnt, z_tyU, z_tyC, z_finV, bnd4, e5, hl])
        r.toNat 0 [some (.ref n), some (.val (.int kind)), some (.val (.str (lets ++ signs))), some (.val (.str [])), none] L2 (by rw [hd]; omega) (by omega) ⟨[], none, rfl, N2, rfl⟩
      obtain ⟨sl2, L3, e3, s, c, rfl, N3, hs⟩ := loop
      rw [List.drop_zero] at e3
      simp only [cl] at e3
      have hb1 : (-4611686018427387904 : Int) ≤ r := by omega
      have hb2 : r < 4611686018427387904 := by omega
      have hl : ∀ L : LH, newS (lets ++ signs) L = .ok (.val (.str (lets ++ signs))) L := fun L => z_newS _ _ (by decide)
      refine ⟨s, L3, N3, by rw [hs, hd]; omega, ?_⟩
      simp [runF, execs, exec, evt, ev, evs, evk, evp, R.bind_ok, R.st_ok, R.opt_some, RS.thn_nx, RS.thn_rt, RS.turn_nx, RS.turn_rt, List.set, List.getElem?_cons_succ, List.getElem?_cons_zero, List.length_nil, List.length_cons, Nat.zero_le, if_true, Bool.false_eq_true, if_false, cl, Bool.false_and, Bool.and_false, BI.calm, reduceIte, z_eq, z_ne, z_lt, z_le, z_gt, z_ge, z_isN, z_isbN, z_isbb, z_tb, z_add, z_sub, z_adds, z_muls, z_slS, z_int, z_len, z_lenL, z_intI, z_frz, z_frzO, z_d0, z_d1, z_cnt, z_tyU, z_tyC, z_finV, f__law_raw_place, b__law_raw_place, bnd3, bnd5, bnd7, bnd8, e1, e2, e7, e8, h0, h1, hl, itemsV, srcOf, hb1, hb2, e3, N3.take]
def cnt (s : List Nat) : List Nat → Nat
  | [] => 0
  | c :: r => s.count c + cnt s r
theorem bnd12 (x : V2) : ld.pg.bind 12 [x] [] = some [x] := rfl
theorem bnd0 (x : V2) : ld.pg.bind 0 [x] [] = some [x] := rfl
theorem bnd0k (x : V2) : ld.pg.bind 0 [] [(17, x)] = some [x] := rfl
theorem bnd6 (x y : V2) : ld.pg.bind 6 [x, y] [] = some [x, y] := rfl
theorem cnt_take (s : List Nat) : ∀ (l : List Nat) (i : Nat) (c : Nat), l[i]? = some c → cnt s (l.take (i + 1)) = cnt s (l.take i) + s.count c
  | [], i, c, h => by simp at h
  | x :: l, 0, c, h => by simp at h; subst h; simp [cnt]
  | x :: l, i + 1, c, h => by
    have := cnt_take s l i c (by simpa using h)
    simp only [List.take_succ_cons, cnt, this]
    omega
def counted (s : List Nat) : Bool := decide (1 ≤ s.length) && decide (s.length ≤ 6) && decide (cnt s lets = s.length)
theorem c_counted (k : Nat) (L : LH) (s : List Nat) : call ld.pg false (k + 2) 12 [.val (.str s)] L = .ok (.val (.bl (counted s))) L := by
  rw [call_succ false (k + 1) 12 _ L f__law_counted rfl]
  have e7 : ∀ L, call ld.pg false (k + 1) 7 [] L = .ok (.val (.str lets)) L := fun L => c_letters k L
  have loop := for_all (body := fun s' L' => execs (cl ld.pg false (k + 1)) p__law_counted_1 s' L') (tg := .nm 2) (src := none) (ds := lets.map fun c => D.str [c])
    (fun i sl L' => ∃ (c : Option V2), sl = [some (.val (.str s)), some (.val (.int (cnt s (lets.take i) : Nat))), c] ∧ L' = L)
    (fun _ _ _ _ _ => trivial) (fun i x sl L' hx ⟨c, z1, z2⟩ => by
      rw [List.getElem?_map] at hx
      cases hi : lets[i]? with
      | none => rw [hi] at hx; cases hx
      | some v =>
        rw [hi] at hx
        cases hx
        refine ⟨_, rfl, _, _, ?_, some (.val (.str [v])), rfl, z2⟩
        subst z1
        rw [cnt_take s lets i v hi]
        simp [p__law_counted_1, runF, execs, exec, evt, ev, evs, evk, evp, R.bind_ok, R.st_ok, R.opt_some, RS.thn_nx, RS.thn_rt, RS.turn_nx, RS.turn_rt, List.set, List.getElem?_cons_succ, List.getElem?_cons_zero, List.length_nil, List.length_cons, Nat.zero_le, if_true, Bool.false_eq_true, if_false, cl, Bool.false_and, Bool.and_false, BI.calm, reduceIte, z_eq, z_ne, z_lt, z_le, z_gt, z_ge, z_isN, z_isbN, z_isbb, z_tb, z_add, z_sub, z_adds, z_muls, z_slS, z_int, z_len, z_lenL, z_intI, z_frz, z_frzO, z_d0, z_d1, z_cnt, z_tyU, z_tyC, z_finV])
    lets.length 0 [some (.val (.str s)), some (.val (.int 0)), none] L (by simp) (by simp) ⟨none, rfl, rfl⟩
  obtain ⟨sl2, L3, e3, c, rfl, e5⟩ := loop
  rw [e5] at e3
  rw [List.drop_zero] at e3
  simp only [cl] at e3
  have ht : lets.take (lets.map fun c => D.str [c]).length = lets := by simp
  rw [ht] at e3
  have S : ∀ b : Bool, counted s = b → call ld.pg false (k + 2) 12 [.val (.str s)] L = .ok (.val (.bl b)) L → call ld.pg false (k + 2) 12 [.val (.str s)] L = .ok (.val (.bl (counted s))) L := fun b h e => by rw [h]; exact e
  rw [← call_succ false (k + 1) 12 _ L f__law_counted rfl]
  by_cases h1 : 1 ≤ s.length
  · have h1' : (1 : Int) ≤ (s.length : Int) := by omega
    by_cases h2 : s.length ≤ 6
    · have h2' : (s.length : Int) ≤ 6 := by omega
      by_cases h3 : cnt s lets = s.length
      · refine S true (by simp [counted, h1, h2, h3]) ?_
        rw [call_succ false (k + 1) 12 _ L f__law_counted rfl]
        simp [runF, execs, exec, evt, ev, evs, evk, evp, R.bind_ok, R.st_ok, R.opt_some, RS.thn_nx, RS.thn_rt, RS.turn_nx, RS.turn_rt, List.set, List.getElem?_cons_succ, List.getElem?_cons_zero, List.length_nil, List.length_cons, Nat.zero_le, if_true, Bool.false_eq_true, if_false, cl, Bool.false_and, Bool.and_false, BI.calm, reduceIte, z_eq, z_ne, z_lt, z_le, z_gt, z_ge, z_isN, z_isbN, z_isbb, z_tb, z_add, z_sub, z_adds, z_muls, z_slS, z_int, z_len, z_lenL, z_intI, z_frz, z_frzO, z_d0, z_d1, z_cnt, z_tyU, z_tyC, z_finV, f__law_counted, b__law_counted, bnd7, e7, itemsV, srcOf, e3, h1', h2', h3]
      · refine S false (by simp [counted, h3]) ?_
        rw [call_succ false (k + 1) 12 _ L f__law_counted rfl]
        have h3' : ¬ ((cnt s lets : Int) = (s.length : Int)) := by omega
        simp [runF, execs, exec, evt, ev, evs, evk, evp, R.bind_ok, R.st_ok, R.opt_some, RS.thn_nx, RS.thn_rt, RS.turn_nx, RS.turn_rt, List.set, List.getElem?_cons_succ, List.getElem?_cons_zero, List.length_nil, List.length_cons, Nat.zero_le, if_true, Bool.false_eq_true, if_false, cl, Bool.false_and, Bool.and_false, BI.calm, reduceIte, z_eq, z_ne, z_lt, z_le, z_gt, z_ge, z_isN, z_isbN, z_isbb, z_tb, z_add, z_sub, z_adds, z_muls, z_slS, z_int, z_len, z_lenL, z_intI, z_frz, z_frzO, z_d0, z_d1, z_cnt, z_tyU, z_tyC, z_finV, f__law_counted, b__law_counted, bnd7, e7, itemsV, srcOf, e3, h1', h2', h3']
    · refine S false (by simp [counted, h2]) ?_
      rw [call_succ false (k + 1) 12 _ L f__law_counted rfl]
      have h2' : ¬ ((s.length : Int) ≤ 6) := by omega
      simp [runF, execs, exec, evt, ev, evs, evk, evp, R.bind_ok, R.st_ok, R.opt_some, RS.thn_nx, RS.thn_rt, RS.turn_nx, RS.turn_rt, List.set, List.getElem?_cons_succ, List.getElem?_cons_zero, List.length_nil, List.length_cons, Nat.zero_le, if_true, Bool.false_eq_true, if_false, cl, Bool.false_and, Bool.and_false, BI.calm, reduceIte, z_eq, z_ne, z_lt, z_le, z_gt, z_ge, z_isN, z_isbN, z_isbb, z_tb, z_add, z_sub, z_adds, z_muls, z_slS, z_int, z_len, z_lenL, z_intI, z_frz, z_frzO, z_d0, z_d1, z_cnt, z_tyU, z_tyC, z_finV, f__law_counted, b__law_counted, bnd7, e7, itemsV, srcOf, e3, h1', h2']
  · refine S false (by simp [counted, h1]) ?_
    rw [call_succ false (k + 1) 12 _ L f__law_counted rfl]
    have h1' : ¬ ((1 : Int) ≤ (s.length : Int)) := by omega
    simp [runF, execs, exec, evt, ev, evs, evk, evp, R.bind_ok, R.st_ok, R.opt_some, RS.thn_nx, RS.thn_rt, RS.turn_nx, RS.turn_rt, List.set, List.getElem?_cons_succ, List.getElem?_cons_zero, List.length_nil, List.length_cons, Nat.zero_le, if_true, Bool.false_eq_true, if_false, cl, Bool.false_and, Bool.and_false, BI.calm, reduceIte, z_eq, z_ne, z_lt, z_le, z_gt, z_ge, z_isN, z_isbN, z_isbb, z_tb, z_add, z_sub, z_adds, z_muls, z_slS, z_int, z_len, z_lenL, z_intI, z_frz, z_frzO, z_d0, z_d1, z_cnt, z_tyU, z_tyC, z_finV, f__law_counted, b__law_counted, bnd7, e7, itemsV, srcOf, e3, h1']
/-- two bools -/
theorem c_same (k : Nat) (L : LH) (a b : Bool) : call ld.pg false (k + 1) 6 [.val (.bl a), .val (.bl b)] L = .ok (.val (.bl (a == b))) L := by
  rw [call_succ false k 6 _ L f__law_same rfl]
  cases a <;> cases b <;> simp [runF, execs, exec, evt, ev, evs, evk, evp, R.bind_ok, R.st_ok, R.opt_some, RS.thn_nx, RS.thn_rt, RS.turn_nx, RS.turn_rt, List.set, List.getElem?_cons_succ, List.getElem?_cons_zero, List.length_nil, List.length_cons, Nat.zero_le, if_true, Bool.false_eq_true, if_false, cl, Bool.false_and, Bool.and_false, BI.calm, reduceIte, z_eq, z_ne, z_lt, z_le, z_gt, z_ge, z_isN, z_isbN, z_isbb, z_tb, z_add, z_sub, z_adds, z_muls, z_slS, z_int, z_len, z_lenL, z_intI, z_frz, z_frzO, z_d0, z_d1, z_cnt, z_tyU, z_tyC, z_finV, f__law_same, b__law_same]
/-- a comprehension whose turns are plain -/
theorem comp_all {F : SL → LH → R (Option D)} {tg : ITg} {sl : SL} {src : Option Nat} {ds : List D} {L : LH} (g : D → D) (hs : srcOk src ds L) (hl : ds.length ≤ 10000)
    (hf : ∀ (i : Nat) (x : D), ds[i]? = some x → ∃ sl', store tg x sl = some sl' ∧ F sl' L = .ok (some (g x)) L) :
    ∀ (m i : Nat) (acc : List D), m = ds.length - i → i ≤ ds.length → acc.length = i → compGo F tg sl src ds L.length (ds.drop i) acc L = .ok (acc ++ (ds.drop i).map g) L
  | 0, i, acc, hm, hi, ha => by
    have e : i = ds.length := by omega
    subst e
    rw [List.drop_length]
    simp only [compGo]
    rw [if_pos hs]
    simp
  | m + 1, i, acc, hm, hi, ha => by
    have hlt : i < ds.length := by omega
    obtain ⟨d, hd, hdrop⟩ := drop_at hlt
    rw [hdrop]
    simp only [compGo]
    rw [if_pos hs]
    obtain ⟨sl', e1, e2⟩ := hf i d hd
    rw [e1]
    simp only [e2]
    have hb : (decide True && decide (acc.length < lim)) = true := by
      simp only [decide_true, Bool.true_and, decide_eq_true_eq]
      show acc.length < 16777216
      omega
    rw [if_pos hb]
    rw [comp_all g hs hl hf m (i + 1) (acc ++ [g d]) (by omega) hlt (by simp [ha])]
    simp
def place (s : List Nat) : Bool := decide (1 ≤ s.length) && decide (s.length ≤ 6) && s.all fun c => strIn [c] lets
theorem bools_map (s : List Nat) (g : Nat → Bool) : bools (s.map fun c => D.bl (g c)) = some (s.map g) := by
  induction s with
  | nil => rfl
  | cons a r ih => simp [bools, ih]
theorem c_place (k : Nat) (L : LH) (s : List Nat) : call ld.pg false (k + 1) 0 [.val (.str s)] L = .ok (.val (.bl (place s))) L := by
  have S : ∀ b : Bool, place s = b → call ld.pg false (k + 1) 0 [.val (.str s)] L = .ok (.val (.bl b)) L → call ld.pg false (k + 1) 0 [.val (.str s)] L = .ok (.val (.bl (place s))) L := fun b h e => by rw [h]; exact e
  have g15 : ld.pg.glob 15 = .int 6 := rfl
  have g16 : ld.pg.glob 16 = .str lets := rfl
  by_cases h1 : 1 ≤ s.length
  · have h1' : ¬ ((s.length : Int) < 1) := by omega
    by_cases h2 : s.length ≤ 6
    · have h2' : ¬ ((6 : Int) < (s.length : Int)) := by omega
      have cg := comp_all (F := turnF (cl ld.pg false k) [] p_is_place_1) (tg := .nm 1) (sl := [some (.val (.str s)), none]) (src := none) (ds := s.map fun c => D.str [c]) (L := L) (fun x => match x with
        | .str [c] => .bl (strIn [c] lets)
        | x => x) trivial (by simp; omega) (fun i x hx => by
          rw [List.getElem?_map] at hx
          cases hi : s[i]? with
          | none => rw [hi] at hx; cases hx
          | some v =>
            rw [hi] at hx
            cases hx
            refine ⟨_, rfl, ?_⟩
            simp [turnF, testOf, p_is_place_1, runF, execs, exec, evt, ev, evs, evk, evp, R.bind_ok, R.st_ok, R.opt_some, RS.thn_nx, RS.thn_rt, RS.turn_nx, RS.turn_rt, List.set, List.getElem?_cons_succ, List.getElem?_cons_zero, List.length_nil, List.length_cons, Nat.zero_le, if_true, Bool.false_eq_true, if_false, cl, Bool.false_and, Bool.and_false, BI.calm, reduceIte, z_eq, z_ne, z_lt, z_le, z_gt, z_ge, z_isN, z_isbN, z_isbb, z_tb, z_add, z_sub, z_adds, z_muls, z_slS, z_int, z_len, z_lenL, z_intI, z_frz, z_frzO, z_d0, z_d1, z_cnt, z_tyU, z_tyC, z_finV, g16, cmpR, cmpV, cmpIn, V2.view, V2.dat?]) s.length 0 [] (by simp) (by simp) rfl
      rw [List.drop_zero] at cg
      have em : ((s.map fun c => D.str [c]).map fun x => match x with
        | .str [c] => D.bl (strIn [c] lets)
        | x => x) = s.map fun c => D.bl (strIn [c] lets) := by
        rw [List.map_map]
        rfl
      rw [em] at cg
      refine S (s.all fun c => strIn [c] lets) (by simp [place, h1, h2]) ?_
      rw [call_succ false k 0 _ L f_is_place rfl]
      have ev1 : ev (cl ld.pg false k) (.comp false p_is_place_1 (.nm 1) .over [.v 0] []) [some (.val (.str s)), none] L = .ok (.val (.lst (s.map fun c => D.bl (strIn [c] lets)))) L := by
        have : ev (cl ld.pg false k) (.comp false p_is_place_1 (.nm 1) .over [.v 0] []) [some (.val (.str s)), none] L = (compGo (turnF (cl ld.pg false k) [] p_is_place_1) (.nm 1) [some (.val (.str s)), none] none (s.map fun c => D.str [c]) L.length (s.map fun c => D.str [c]) [] L).bind fun ys L2 => newL false ys L2 := by
          simp only [ev, evs, cl, Bool.false_eq_true, if_false, List.getElem?_cons_zero, R.bind_ok, itemsV, srcOf]
          rfl
        rw [this, cg]
        simp only [List.nil_append, R.bind_ok]
        exact z_newL _ _ (by simp; omega)
      have hall : biV false .all [.val (.lst (s.map fun c => D.bl (strIn [c] lets)))] L = .ok (.val (.bl (s.all fun c => strIn [c] lets))) L := by
        simp only [biV, V2.lst?, Option.bind_some, bools_map]
        simp [List.all_map]
      have st2 : exec (cl ld.pg false k) (.ret (some (.bi false .all [.comp false p_is_place_1 (.nm 1) .over [.v 0] []]))) [some (.val (.str s)), none] L = .rt (.val (.bl (s.all fun c => strIn [c] lets))) L := by
        rw [z_ret, z_bi1, ev1]
        simp only [R.bind_ok, hall, R.st_ok]
      have st1 : exec (cl ld.pg false k) (.ife (.or (.cmp .lt (.bi false .len [.v 0]) (.c (.int 1))) (.cmp .gt (.bi false .len [.v 0]) (.g 15))) [.ret (some (.c (.bl false)))] []) [some (.val (.str s)), none] L = .nx [some (.val (.str s)), none] L := by
        simp [runF, execs, exec, evt, ev, evs, evk, evp, R.bind_ok, R.st_ok, R.opt_some, RS.thn_nx, RS.thn_rt, RS.turn_nx, RS.turn_rt, List.set, List.getElem?_cons_succ, List.getElem?_cons_zero, List.length_nil, List.length_cons, Nat.zero_le, if_true, Bool.false_eq_true, if_false, cl, Bool.false_and, Bool.and_false, BI.calm, reduceIte, z_eq, z_ne, z_lt, z_le, z_gt, z_ge, z_isN, z_isbN, z_isbb, z_tb, z_add, z_sub, z_adds, z_muls, z_slS, z_int, z_len, z_lenL, z_intI, z_frz, z_frzO, z_d0, z_d1, z_cnt, z_tyU, z_tyC, z_finV, h1', h2', g15]
      have run : execs (cl ld.pg false k) b_is_place [some (.val (.str s)), none] L = .rt (.val (.bl (s.all fun c => strIn [c] lets))) L := by
        unfold b_is_place
        rw [z_cons, st1, RS.thn_nx, z_cons, st2, RS.thn_rt]
      show (execs (cl ld.pg false k) b_is_place [some (.val (.str s)), none] L).fin L.length = _
      rw [run]
      simp [z_finV]
    · refine S false (by simp [place, h2]) ?_
      rw [call_succ false k 0 _ L f_is_place rfl]
      have h2' : ((6 : Int) < (s.length : Int)) := by omega
      simp [runF, execs, exec, evt, ev, evs, evk, evp, R.bind_ok, R.st_ok, R.opt_some, RS.thn_nx, RS.thn_rt, RS.turn_nx, RS.turn_rt, List.set, List.getElem?_cons_succ, List.getElem?_cons_zero, List.length_nil, List.length_cons, Nat.zero_le, if_true, Bool.false_eq_true, if_false, cl, Bool.false_and, Bool.and_false, BI.calm, reduceIte, z_eq, z_ne, z_lt, z_le, z_gt, z_ge, z_isN, z_isbN, z_isbb, z_tb, z_add, z_sub, z_adds, z_muls, z_slS, z_int, z_len, z_lenL, z_intI, z_frz, z_frzO, z_d0, z_d1, z_cnt, z_tyU, z_tyC, z_finV, f_is_place, b_is_place, h1', h2', g15]
  · refine S false (by simp [place, h1]) ?_
    rw [call_succ false k 0 _ L f_is_place rfl]
    have h1' : ((s.length : Int) < 1) := by omega
    simp [runF, execs, exec, evt, ev, evs, evk, evp, R.bind_ok, R.st_ok, R.opt_some, RS.thn_nx, RS.thn_rt, RS.turn_nx, RS.turn_rt, List.set, List.getElem?_cons_succ, List.getElem?_cons_zero, List.length_nil, List.length_cons, Nat.zero_le, if_true, Bool.false_eq_true, if_false, cl, Bool.false_and, Bool.and_false, BI.calm, reduceIte, z_eq, z_ne, z_lt, z_le, z_gt, z_ge, z_isN, z_isbN, z_isbb, z_tb, z_add, z_sub, z_adds, z_muls, z_slS, z_int, z_len, z_lenL, z_intI, z_frz, z_frzO, z_d0, z_d1, z_cnt, z_tyU, z_tyC, z_finV, f_is_place, b_is_place, h1']
end Lw

set_option maxRecDepth 100000
set_option maxHeartbeats 4000000
namespace Lw
open PI
theorem strIn_one (c : Nat) (t : List Nat) : strIn [c] t = decide (c ∈ t) := PySem.StrLaws.found_one ⟨t.toArray⟩ c
theorem cnt_cons (a : Nat) (s : List Nat) : ∀ l : List Nat, l.Nodup → cnt (a :: s) l = cnt s l + (if a ∈ l then 1 else 0)
  | [], _ => rfl
  | x :: l, h => by
    rw [List.nodup_cons] at h
    have ih := cnt_cons a s l h.2
    simp only [cnt, ih, List.count_cons]
    by_cases e : a = x
    · subst e
      simp [h.1]
      omega
    · have : (a == x) = false := beq_eq_false_iff_ne.mpr e
      simp only [this, List.mem_cons, e, false_or]
      simp
      omega
theorem cnt_le : ∀ (s l : List Nat), l.Nodup → cnt s l ≤ s.length ∧ (cnt s l = s.length ↔ ∀ c ∈ s, c ∈ l)
  | [], l, h => by
    have : ∀ l : List Nat, cnt [] l = 0 := fun l => by induction l with
      | nil => rfl
      | cons x l ih => simp [cnt, ih]
    simp [this]
  | a :: s, l, h => by
    obtain ⟨h1, h2⟩ := cnt_le s l h
    rw [cnt_cons a s l h]
    by_cases e : a ∈ l
    · simp only [e, if_true, List.length_cons, List.mem_cons, forall_eq_or_imp, true_and]
      exact ⟨by omega, by rw [← h2]; omega⟩
    · simp only [e, if_false, List.length_cons, List.mem_cons, forall_eq_or_imp, false_and, iff_false]
      exact ⟨by omega, by omega⟩
theorem lets_nd : lets.Nodup := by decide
theorem all_cnt (s : List Nat) : (s.all fun c => strIn [c] lets) = decide (cnt s lets = s.length) := by
  rw [Bool.eq_iff_iff, List.all_eq_true, decide_eq_true_eq, (cnt_le s lets lets_nd).2]
  constructor
  · intro h c hc
    have := h c hc
    rw [strIn_one] at this
    exact of_decide_eq_true this
  · intro h c hc
    rw [strIn_one]
    exact decide_eq_true (h c hc)
theorem place_counted (s : List Nat) : place s = counted s := by
  unfold place counted
  rw [all_cnt]
theorem near_app {L1 L' : LH} {n : Nat} {w : LO} (hn : n < L1.length) (h : Near n (L1 ++ [w]) L') : ∃ L2, Near n L1 L2 ∧ L' = L2 ++ [w] := by
  obtain ⟨st, a, rfl⟩ := h
  exact ⟨L1.set n (.lst st), ⟨st, a, rfl⟩, List.set_append_left _ _ hn⟩
theorem sto_app {L1 : LH} {n : Nat} {w : LO} (h : Sto L1 n) : Sto (L1 ++ [w]) n := by
  obtain ⟨st, e, q⟩ := h
  exact ⟨st, by rw [List.getElem?_append_left (List.getElem?_eq_some_iff.mp e).1]; exact e, q⟩
theorem z_app {c : Cl} {i m : Nat} {X : IE} {sl : SL} {L L1 : LH} {ws ws1 : List D} {d : D} (h1 : sl[i]? = some (some (.ref m))) (h2 : L[m]? = some (.lst ws)) (h3 : ev c X sl L = .ok (.val d) L1) (h4 : L1[m]? = some (.lst ws1)) (h5 : ws1.length ≤ 10000) :
    exec c (.ex (.meth false .lAppend (.v i) [X])) sl L = .nx sl (L1.set m (.lst (ws1 ++ [d]))) := by
  have h6 : ws1.length < lim := by show _ < 16777216; omega
  simp only [exec, ev, evs, h1, R.bind_ok, methTy, MI.ty, V2.lst?, h2, Option.isSome_some, if_true, h3, methV, lstPut, h4, h6, R.st_ok]
def AllS (ws : List D) : Prop := ∀ d ∈ ws, ∃ s, d = .str s
theorem bnd13 (n : Nat) : ld.pg.bind 13 [.ref n] [] = some [.ref n] := rfl
theorem c_words (k : Nat) {L : LH} {n : Nat} (h : Sto L n) : ∃ ws L', Near n L L' ∧ AllS ws ∧ ws.length ≤ 1000 ∧ call ld.pg false (k + 7) 13 [.ref n] L = .ok (.ref L.length) (L' ++ [.lst ws]) := by
  obtain ⟨stem, L1, n1, s0, s1, s2, e1⟩ := c_name (k + 2) h
  obtain ⟨base, L2, n2, t0, t1, t2, e2⟩ := c_name (k + 2) (n1.sto h.lt)
  have N2 := n1.trans n2
  obtain ⟨at_, L3, e3, n3, q0, q1⟩ := take' (k + 4) (N2.sto h.lt) (many := (base.length : Int) + 1) (by omega)
  have N3 := N2.trans n3
  have hn3 : n < L3.length := by rw [N3.len]; exact h.lt
  let c := cl ld.pg false (k + 6)
  let sl0 : SL := [some (.ref n), some (.val (.str stem)), some (.val (.str base)), some (.val (.int at_)), none, none, none, none]
  have st1 : exec c (.set 1 (.call false 9 [.v 0] [])) [some (.ref n), none, none, none, none, none, none, none] L = .nx [some (.ref n), some (.val (.str stem)), none, none, none, none, none, none] L1 := by
    simp [c, runF, execs, exec, evt, ev, evs, evk, evp, R.bind_ok, R.st_ok, R.opt_some, RS.thn_nx, RS.thn_rt, RS.turn_nx, RS.turn_rt, List.set, List.getElem?_cons_succ, List.getElem?_cons_zero, List.length_nil, List.length_cons, Nat.zero_le, if_true, Bool.false_eq_true, if_false, cl, Bool.false_and, Bool.and_false, BI.calm, reduceIte, z_eq, z_ne, z_lt, z_le, z_gt, z_ge, z_isN, z_isbN, z_isbb, z_tb, z_add, z_sub, z_adds, z_muls, z_slS, z_int, z_len, z_lenL, z_intI, z_frz, z_frzO, z_d0, z_d1, z_cnt, z_tyU, z_tyC, z_finV, bnd9, e1]
  have st2 : exec c (.set 2 (.call false 9 [.v 0] [])) [some (.ref n), some (.val (.str stem)), none, none, none, none, none, none] L1 = .nx [some (.ref n), some (.val (.str stem)), some (.val (.str base)), none, none, none, none, none] L2 := by
    simp [c, runF, execs, exec, evt, ev, evs, evk, evp, R.bind_ok, R.st_ok, R.opt_some, RS.thn_nx, RS.thn_rt, RS.turn_nx, RS.turn_rt, List.set, List.getElem?_cons_succ, List.getElem?_cons_zero, List.length_nil, List.length_cons, Nat.zero_le, if_true, Bool.false_eq_true, if_false, cl, Bool.false_and, Bool.and_false, BI.calm, reduceIte, z_eq, z_ne, z_lt, z_le, z_gt, z_ge, z_isN, z_isbN, z_isbb, z_tb, z_add, z_sub, z_adds, z_muls, z_slS, z_int, z_len, z_lenL, z_intI, z_frz, z_frzO, z_d0, z_d1, z_cnt, z_tyU, z_tyC, z_finV, bnd9, e2]
  have st3 : exec c (.set 3 (.call false 3 [.v 0, .bin .add false (.bi false .len [.v 2]) (.c (.int 1))] [])) [some (.ref n), some (.val (.str stem)), some (.val (.str base)), none, none, none, none, none] L2 = .nx sl0 L3 := by
    simp [c, sl0, runF, execs, exec, evt, ev, evs, evk, evp, R.bind_ok, R.st_ok, R.opt_some, RS.thn_nx, RS.thn_rt, RS.turn_nx, RS.turn_rt, List.set, List.getElem?_cons_succ, List.getElem?_cons_zero, List.length_nil, List.length_cons, Nat.zero_le, if_true, Bool.false_eq_true, if_false, cl, Bool.false_and, Bool.and_false, BI.calm, reduceIte, z_eq, z_ne, z_lt, z_le, z_gt, z_ge, z_isN, z_isbN, z_isbb, z_tb, z_add, z_sub, z_adds, z_muls, z_slS, z_int, z_len, z_lenL, z_intI, z_frz, z_frzO, z_d0, z_d1, z_cnt, z_tyU, z_tyC, z_finV, bnd3, e3]
  have hr : (rep stem 13).length ≤ 78 := by
    have h13 : (rep stem 13).length = 13 * stem.length := rep_len stem 13
    rw [h13]
    omega
  have hm : ∀ L : LH, newS (rep stem 13) L = .ok (.val (.str (rep stem 13))) L := fun L => z_newS _ _ (by omega)
  have cg := comp_all (F := turnF c [] p__law_words_1) (tg := .nm 7) (sl := sl0) (src := none) (ds := range2 0 13) (L := L3) (fun x => match x with
    | .int i => .str (cutD (rep stem 13) none (some i))
    | x => x) trivial (by decide) (fun i x hx => by
      unfold range2 at hx
      rw [List.getElem?_map] at hx
      cases hi : (List.range ((13 : Int) - 0).toNat)[i]? with
      | none => rw [hi] at hx; cases hx
      | some v =>
        rw [hi] at hx
        cases hx
        refine ⟨_, rfl, ?_⟩
        simp [c, sl0, turnF, testOf, p__law_words_1, runF, execs, exec, evt, ev, evs, evk, evp, R.bind_ok, R.st_ok, R.opt_some, RS.thn_nx, RS.thn_rt, RS.turn_nx, RS.turn_rt, List.set, List.getElem?_cons_succ, List.getElem?_cons_zero, List.length_nil, List.length_cons, Nat.zero_le, if_true, Bool.false_eq_true, if_false, cl, Bool.false_and, Bool.and_false, BI.calm, reduceIte, z_eq, z_ne, z_lt, z_le, z_gt, z_ge, z_isN, z_isbN, z_isbb, z_tb, z_add, z_sub, z_adds, z_muls, z_slS, z_int, z_len, z_lenL, z_intI, z_frz, z_frzO, z_d0, z_d1, z_cnt, z_tyU, z_tyC, z_finV, hm, kOk, V2.dat?]) 13 0 [] (by decide) (by decide) rfl
  rw [List.drop_zero] at cg
  generalize hw : ((range2 0 13).map fun x => match x with
    | .int i => D.str (cutD (rep stem 13) none (some i))
    | x => x) = ws0 at cg
  have w1 : AllS ws0 := by
    rw [← hw]
    intro d hd
    obtain ⟨x, hx, rfl⟩ := List.mem_map.mp hd
    unfold range2 at hx
    obtain ⟨v, _, rfl⟩ := List.mem_map.mp hx
    exact ⟨_, rfl⟩
  have w2 : ws0.length = 13 := by rw [← hw, List.length_map]; rfl
  have ev4 : ev c (.comp true p__law_words_1 (.nm 7) .range [.c (.int 13)] []) sl0 L3 = .ok (.ref L3.length) (L3 ++ [.lst ws0]) := by
    have : ev c (.comp true p__law_words_1 (.nm 7) .range [.c (.int 13)] []) sl0 L3 = (compGo (turnF c [] p__law_words_1) (.nm 7) sl0 none (range2 0 13) L3.length (range2 0 13) [] L3).bind fun ys L2 => newL true ys L2 := by
      simp only [ev, evs, c, cl, Bool.false_eq_true, if_false, R.bind_ok, itemsV, srcOf]
      rfl
    rw [this, cg]
    simp only [List.nil_append, R.bind_ok, newL, w2]
    rw [if_pos (show 13 ≤ lim by decide)]
    rfl
  have st4 : exec c (.set 4 (.comp true p__law_words_1 (.nm 7) .range [.c (.int 13)] [])) sl0 L3 = .nx [some (.ref n), some (.val (.str stem)), some (.val (.str base)), some (.val (.int at_)), some (.ref L3.length), none, none, none] (L3 ++ [.lst ws0]) := by
    rw [z_set, ev4]
    rfl
  have hm3 : L3.length = L.length := N3.len
  -- the first for
  have loop1 := for_all (body := fun s' L' => execs c p__law_words_2 s' L') (tg := .nm 5) (src := none) (ds := (lets ++ signs).map fun c => D.str [c])
    (fun i sl L' => ∃ (ws : List D) (x y : Option V2), sl = [some (.ref n), some (.val (.str stem)), some (.val (.str base)), some (.val (.int at_)), some (.ref L3.length), x, y, none] ∧ L' = L3 ++ [.lst ws] ∧ AllS ws ∧ ws.length = 13 + 2 * i)
    (fun _ _ _ _ _ => trivial) (fun i x sl L' hx ⟨ws, x1, y1, z1, z2, z3, z4⟩ => by
      rw [List.getElem?_map] at hx
      cases hi : (lets ++ signs)[i]? with
      | none => rw [hi] at hx; cases hx
      | some v =>
        rw [hi] at hx
        cases hx
        have hlt : i < (lets ++ signs).length := (List.getElem?_eq_some_iff.mp hi).1
        have h94 : (lets ++ signs).length = 94 := rfl
        rw [h94] at hlt
        subst z1 z2
        have c1 : (cutD base none (some at_)).length ≤ 6 := Nat.le_trans (cut_len _ _ _) t1
        have c2 : (cutD base (some at_) none).length ≤ 6 := Nat.le_trans (cut_len _ _ _) t1
        have c3 : (cutD base (some (at_ + 1)) none).length ≤ 6 := Nat.le_trans (cut_len _ _ _) t1
        have m1 : ∀ L : LH, newS (cutD base none (some at_) ++ [v]) L = .ok (.val (.str (cutD base none (some at_) ++ [v]))) L := fun L => z_newS _ _ (by simp; omega)
        have m2 : ∀ L : LH, newS (cutD base none (some at_) ++ [v] ++ cutD base (some at_) none) L = .ok (.val (.str (cutD base none (some at_) ++ [v] ++ cutD base (some at_) none))) L := fun L => z_newS _ _ (by simp; omega)
        have m3 : ∀ L : LH, newS (cutD base none (some at_) ++ [v] ++ cutD base (some (at_ + 1)) none) L = .ok (.val (.str (cutD base none (some at_) ++ [v] ++ cutD base (some (at_ + 1)) none))) L := fun L => z_newS _ _ (by simp; omega)
        have g : ∀ ws : List D, (L3 ++ [LO.lst ws])[L3.length]? = some (.lst ws) := fun ws => by simp
        have gset : ∀ ws ws' : List D, (L3 ++ [LO.lst ws]).set L3.length (.lst ws') = L3 ++ [.lst ws'] := fun ws ws' => by
          rw [List.set_append_right _ _ (Nat.le_refl _)]
          simp
        refine ⟨_, rfl, _, _, ?_, ws ++ [.str (cutD base none (some at_) ++ [v] ++ cutD base (some at_) none)] ++ [.str (cutD base none (some at_) ++ [v] ++ cutD base (some (at_ + 1)) none)], some (.val (.str [v])), y1, rfl, rfl, ?_, by simp [z4]; omega⟩
        · have a1 : ∀ L, ev c (.bin .add false (.bin .add false (.slice false (.v 2) none (some (.v 3))) (.v 5)) (.slice false (.v 2) (some (.v 3)) none)) [some (.ref n), some (.val (.str stem)), some (.val (.str base)), some (.val (.int at_)), some (.ref L3.length), some (.val (.str [v])), y1, none] L = .ok (.val (.str (cutD base none (some at_) ++ [v] ++ cutD base (some at_) none))) L := fun L => by
            simp [c, runF, execs, exec, evt, ev, evs, evk, evp, R.bind_ok, R.st_ok, R.opt_some, RS.thn_nx, RS.thn_rt, RS.turn_nx, RS.turn_rt, List.set, List.getElem?_cons_succ, List.getElem?_cons_zero, List.length_nil, List.length_cons, Nat.zero_le, if_true, Bool.false_eq_true, if_false, cl, Bool.false_and, Bool.and_false, BI.calm, reduceIte, z_eq, z_ne, z_lt, z_le, z_gt, z_ge, z_isN, z_isbN, z_isbb, z_tb, z_add, z_sub, z_adds, z_muls, z_slS, z_int, z_len, z_lenL, z_intI, z_frz, z_frzO, z_d0, z_d1, z_cnt, z_tyU, z_tyC, z_finV, -List.append_assoc, m1, m2]
          have a2 : ∀ L, ev c (.bin .add false (.bin .add false (.slice false (.v 2) none (some (.v 3))) (.v 5)) (.slice false (.v 2) (some (.bin .add false (.v 3) (.c (.int 1)))) none)) [some (.ref n), some (.val (.str stem)), some (.val (.str base)), some (.val (.int at_)), some (.ref L3.length), some (.val (.str [v])), y1, none] L = .ok (.val (.str (cutD base none (some at_) ++ [v] ++ cutD base (some (at_ + 1)) none))) L := fun L => by
            simp [c, runF, execs, exec, evt, ev, evs, evk, evp, R.bind_ok, R.st_ok, R.opt_some, RS.thn_nx, RS.thn_rt, RS.turn_nx, RS.turn_rt, List.set, List.getElem?_cons_succ, List.getElem?_cons_zero, List.length_nil, List.length_cons, Nat.zero_le, if_true, Bool.false_eq_true, if_false, cl, Bool.false_and, Bool.and_false, BI.calm, reduceIte, z_eq, z_ne, z_lt, z_le, z_gt, z_ge, z_isN, z_isbN, z_isbb, z_tb, z_add, z_sub, z_adds, z_muls, z_slS, z_int, z_len, z_lenL, z_intI, z_frz, z_frzO, z_d0, z_d1, z_cnt, z_tyU, z_tyC, z_finV, -List.append_assoc, m1, m3]
          show execs c p__law_words_2 [some (.ref n), some (.val (.str stem)), some (.val (.str base)), some (.val (.int at_)), some (.ref L3.length), some (.val (.str [v])), y1, none] (L3 ++ [.lst ws]) = _
          unfold p__law_words_2
          rw [z_cons, z_app (m := L3.length) rfl (g ws) (a1 _) (g ws) (by omega), RS.thn_nx, gset, z_cons, z_app (m := L3.length) rfl (g _) (a2 _) (g _) (by simp; omega), RS.thn_nx, gset]
          simp only [execs]
        · intro d hd
          simp only [List.mem_append, List.mem_singleton] at hd
          rcases hd with (hd | rfl) | rfl
          · exact z3 d hd
          · exact ⟨_, rfl⟩
          · exact ⟨_, rfl⟩)
    94 0 [some (.ref n), some (.val (.str stem)), some (.val (.str base)), some (.val (.int at_)), some (.ref L3.length), none, none, none] (L3 ++ [.lst ws0]) rfl (by simp) ⟨ws0, none, none, rfl, rfl, w1, by rw [w2]⟩
  rw [List.drop_zero] at loop1
  obtain ⟨sl1, L4, f1, ws1, x1, y1, rfl, rfl, v1, v2⟩ := loop1
  have h94 : ((lets ++ signs).map fun c => D.str [c]).length = 94 := rfl
  rw [h94] at v2
  have e7 : ∀ L, call ld.pg false (k + 6) 7 [] L = .ok (.val (.str lets)) L := fun L => c_letters (k + 5) L
  have e8 : ∀ L, call ld.pg false (k + 6) 8 [] L = .ok (.val (.str signs)) L := fun L => c_signs (k + 5) L
  have hls : ∀ L : LH, newS (lets ++ signs) L = .ok (.val (.str (lets ++ signs))) L := fun L => z_newS _ _ (by decide)
  have st5 : exec c (.for_ (.nm 5) .over [.bin .add false (.call false 7 [] []) (.call false 8 [] [])] p__law_words_2) [some (.ref n), some (.val (.str stem)), some (.val (.str base)), some (.val (.int at_)), some (.ref L3.length), none, none, none] (L3 ++ [.lst ws0]) = .nx [some (.ref n), some (.val (.str stem)), some (.val (.str base)), some (.val (.int at_)), some (.ref L3.length), x1, y1, none] (L3 ++ [.lst ws1]) := by
    have a1 : evs c [.bin .add false (.call false 7 [] []) (.call false 8 [] [])] [some (.ref n), some (.val (.str stem)), some (.val (.str base)), some (.val (.int at_)), some (.ref L3.length), none, none, none] (L3 ++ [.lst ws0]) = .ok [.val (.str (lets ++ signs))] (L3 ++ [.lst ws0]) := by
      simp only [evs, ev, evk, c, cl, R.bind_ok, bnd7, bnd8, e7, e8, z_frz, z_adds, hls]
    rw [z_for, a1]
    exact f1
  obtain ⟨r, L5, n5, r0, r1, e9⟩ := c_many (k + 3) (sto_app (w := .lst ws1) (N3.sto h.lt)) 0 12 (by omega)
  obtain ⟨L6, n6, rfl⟩ := near_app hn3 n5
  have N6 := N3.trans n6
  have hd : (range2 0 r).length = r.toNat := by simp [range2]
  have g : ∀ (K : LH) (ws : List D), K.length = L3.length → (K ++ [LO.lst ws])[L3.length]? = some (.lst ws) := fun K ws hK => by rw [← hK]; simp
  have gset : ∀ (K : LH) (ws ws' : List D), K.length = L3.length → (K ++ [LO.lst ws]).set L3.length (.lst ws') = K ++ [.lst ws'] := fun K ws ws' hK => by
    rw [← hK, List.set_append_right _ _ (Nat.le_refl _)]
    simp
  have loop2 := for_all (body := fun s' L' => execs c p__law_words_3 s' L') (tg := .nm 6) (src := none) (ds := range2 0 r)
    (fun i sl L' => ∃ (ws : List D) (y : Option V2) (K : LH), sl = [some (.ref n), some (.val (.str stem)), some (.val (.str base)), some (.val (.int at_)), some (.ref L3.length), x1, y, none] ∧ L' = K ++ [.lst ws] ∧ Near n L3 K ∧ AllS ws ∧ ws.length = 201 + i)
    (fun _ _ _ _ _ => trivial) (fun i x sl L' hx ⟨ws, y, K, z1, z2, z3, z4, z5⟩ => by
      have hi : i < r.toNat := by rw [← hd]; exact (List.getElem?_eq_some_iff.mp hx).1
      subst z1 z2
      have hK : n < K.length := by rw [z3.len]; exact hn3
      obtain ⟨s, K2, n7, _, e10⟩ := c_raw k (sto_app (w := .lst ws) (z3.sto hn3))
      obtain ⟨K3, n8, rfl⟩ := near_app hK n7
      have n9 := z3.trans n8
      have a1 : ev c (.call false 11 [.v 0] []) [some (.ref n), some (.val (.str stem)), some (.val (.str base)), some (.val (.int at_)), some (.ref L3.length), x1, some (.val x), none] (K ++ [.lst ws]) = .ok (.val (.str s)) (K3 ++ [.lst ws]) := by
        simp only [c, evs, ev, evk, cl, R.bind_ok, bnd11, e10, z_frz, List.getElem?_cons_zero]
      refine ⟨_, rfl, _, _, ?_, ws ++ [.str s], some (.val x), K3, rfl, rfl, n9, ?_, by simp [z5]; omega⟩
      · show execs c p__law_words_3 [some (.ref n), some (.val (.str stem)), some (.val (.str base)), some (.val (.int at_)), some (.ref L3.length), x1, some (.val x), none] (K ++ [.lst ws]) = _
        unfold p__law_words_3
        rw [z_cons, z_app (m := L3.length) rfl (g K ws z3.len) a1 (g K3 ws n9.len) (by omega), RS.thn_nx, gset K3 _ _ n9.len]
        simp only [execs]
      · intro d hd
        simp only [List.mem_append, List.mem_singleton] at hd
        rcases hd with hd | rfl
        · exact z4 d hd
        · exact ⟨_, rfl⟩)
    r.toNat 0 [some (.ref n), some (.val (.str stem)), some (.val (.str base)), some (.val (.int at_)), some (.ref L3.length), x1, y1, none] (L6 ++ [.lst ws1]) (by rw [hd]; omega) (by omega) ⟨ws1, y1, L6, rfl, rfl, n6, v1, by omega⟩
  rw [List.drop_zero] at loop2
  obtain ⟨sl2, L7, f2, ws2, y2, K2, rfl, rfl, n7, v3, v4⟩ := loop2
  have N7 := N3.trans n7
  have hb1 : (-4611686018427387904 : Int) ≤ r := by omega
  have hb2 : r < 4611686018427387904 := by omega
  have st6 : exec c (.for_ (.nm 6) .range [.call false 5 [.v 0, .c (.int 0), .c (.int 12)] []] p__law_words_3) [some (.ref n), some (.val (.str stem)), some (.val (.str base)), some (.val (.int at_)), some (.ref L3.length), x1, y1, none] (L3 ++ [.lst ws1]) = .nx [some (.ref n), some (.val (.str stem)), some (.val (.str base)), some (.val (.int at_)), some (.ref L3.length), x1, y2, none] (K2 ++ [.lst ws2]) := by
    have a1 : evs c [.call false 5 [.v 0, .c (.int 0), .c (.int 12)] []] [some (.ref n), some (.val (.str stem)), some (.val (.str base)), some (.val (.int at_)), some (.ref L3.length), x1, y1, none] (L3 ++ [.lst ws1]) = .ok [.val (.int r)] (L6 ++ [.lst ws1]) := by
      simp only [c, evs, ev, evk, cl, R.bind_ok, bnd5, e9, z_frz, List.getElem?_cons_zero]
    have hit : itemsV .range [.val (.int r)] (L6 ++ [LO.lst ws1]) = some (range2 0 r) := by
      simp [itemsV, hb1, hb2]
    rw [z_for, a1]
    simp only [R.st_ok, hit]
    exact f2
  have st7 : exec c (.ret (some (.v 4))) [some (.ref n), some (.val (.str stem)), some (.val (.str base)), some (.val (.int at_)), some (.ref L3.length), x1, y2, none] (K2 ++ [.lst ws2]) = .rt (.ref L3.length) (K2 ++ [.lst ws2]) := by
    simp only [exec, ev, List.getElem?_cons_succ, List.getElem?_cons_zero, R.st_ok]
  refine ⟨ws2, K2, N7, v3, by rw [v4, hd]; omega, ?_⟩
  rw [call_succ false (k + 6) 13 _ L f__law_words rfl]
  have run : execs c b__law_words [some (.ref n), none, none, none, none, none, none, none] L = .rt (.ref L3.length) (K2 ++ [.lst ws2]) := by
    unfold b__law_words
    rw [z_cons, st1, RS.thn_nx, z_cons, st2, RS.thn_nx, z_cons, st3, RS.thn_nx, z_cons, st4, RS.thn_nx, z_cons, st5, RS.thn_nx, z_cons, st6, RS.thn_nx, z_cons, st7, RS.thn_rt]
  show (execs c b__law_words [some (.ref n), none, none, none, none, none, none, none] L).fin L.length = _
  rw [run]
  have hg := g K2 ws2 n7.len
  simp only [RS.fin, retV]
  rw [if_neg (by omega), hg]
  simp only
  have ht : (K2 ++ [LO.lst ws2]).take L.length = K2 := by
    rw [← N7.len]
    simp
  rw [ht]
theorem bnd2 (x : V2) : ld.pg.bind 2 [x] [] = some [x] := rfl
theorem turn1 (k : Nat) (s : List Nat) (a b c' : Option V2) (L : LH) : execs (cl ld.pg false (k + 2)) p_law_1 [a, b, c', some (.val (.str s))] L = .nx [a, b, c', some (.val (.str s))] L := by
  have h0 := c_place (k + 1) L s
  have h1 := c_counted k L s
  have h2 := c_same (k + 1) L (place s) (counted s)
  rw [place_counted] at h0 h2
  unfold p_law_1
  simp [runF, execs, exec, evt, ev, evs, evk, evp, R.bind_ok, R.st_ok, R.opt_some, RS.thn_nx, RS.thn_rt, RS.turn_nx, RS.turn_rt, List.set, List.getElem?_cons_succ, List.getElem?_cons_zero, List.length_nil, List.length_cons, Nat.zero_le, if_true, Bool.false_eq_true, if_false, cl, Bool.false_and, Bool.and_false, BI.calm, reduceIte, z_eq, z_ne, z_lt, z_le, z_gt, z_ge, z_isN, z_isbN, z_isbb, z_tb, z_add, z_sub, z_adds, z_muls, z_slS, z_int, z_len, z_lenL, z_intI, z_frz, z_frzO, z_d0, z_d1, z_cnt, z_tyU, z_tyC, z_finV, bnd0, bnd12, bnd6, h0, h1, h2]
theorem turn2 (k : Nat) (s : List Nat) (a b c' : Option V2) (L : LH) : execs (cl ld.pg false (k + 2)) p_law_2 [a, b, c', some (.val (.str s))] L = .nx [a, b, c', some (.val (.str s))] L := by
  have h0 := c_place (k + 1) L s
  have h1 := c_counted k L s
  have h2 := c_same (k + 1) L (place s) (counted s)
  rw [place_counted] at h0 h2
  unfold p_law_2
  simp [runF, execs, exec, evt, ev, evs, evk, evp, R.bind_ok, R.st_ok, R.opt_some, RS.thn_nx, RS.thn_rt, RS.turn_nx, RS.turn_rt, List.set, List.getElem?_cons_succ, List.getElem?_cons_zero, List.length_nil, List.length_cons, Nat.zero_le, if_true, Bool.false_eq_true, if_false, cl, Bool.false_and, Bool.and_false, BI.calm, reduceIte, z_eq, z_ne, z_lt, z_le, z_gt, z_ge, z_isN, z_isbN, z_isbb, z_tb, z_add, z_sub, z_adds, z_muls, z_slS, z_int, z_len, z_lenL, z_intI, z_frz, z_frzO, z_d0, z_d1, z_cnt, z_tyU, z_tyC, z_finV, bnd0k, bnd12, bnd6, h0, h1, h2]
theorem truth (ns : List Int) (hn : ns.length ≤ 63) : call ld.pg false 200 14 [.val (.lst (ns.map D.int))] [] = .ok (.val (.bl true)) [] := by
  obtain ⟨st, hst, e1⟩ := c_store 198 ns hn []
  have h : Sto [LO.lst st] 0 := ⟨st, rfl, hst⟩
  obtain ⟨ws, L1, n1, w1, w2, e2⟩ := c_words 192 h
  rw [call_succ false 199 14 _ [] f_law rfl]
  have c1 : exec (cl ld.pg false 199) (.set 1 (.call true 2 [.v 0] [])) [some (.val (.lst (ns.map D.int))), none, none, none] [] = .nx [some (.val (.lst (ns.map D.int))), some (.ref 0), none, none] [.lst st] := by
    simp only [exec, ev, evs, evk, cl, R.bind_ok, R.st_ok, bnd2, List.getElem?_cons_zero, e1, z_frzO]
    rfl
  have hl : L1.length = 1 := n1.len
  have c2 : exec (cl ld.pg false 199) (.set 2 (.call false 13 [.v 1] [])) [some (.val (.lst (ns.map D.int))), some (.ref 0), none, none] [.lst st] = .nx [some (.val (.lst (ns.map D.int))), some (.ref 0), some (.val (.lst ws)), none] L1 := by
    have hf : frzd false [LO.lst st].length (.ref [LO.lst st].length) (L1 ++ [LO.lst ws]) = .ok (.val (.lst ws)) L1 := by
      simp only [frzd, List.length_singleton, if_true]
      have : (L1 ++ [LO.lst ws])[1]? = some (.lst ws) := by rw [← hl]; simp
      rw [this]
      simp only
      have : (L1 ++ [LO.lst ws]).take 1 = L1 := by rw [← hl]; simp
      rw [this]
    simp only [exec, ev, evs, evk, cl, R.bind_ok, R.st_ok, bnd13, List.getElem?_cons_succ, List.getElem?_cons_zero, e2, hf]
    rfl
  have l1 := for_all (body := fun s' L' => execs (cl ld.pg false 199) p_law_1 s' L') (tg := .nm 3) (src := none) (ds := ws)
    (fun i sl L' => ∃ y : Option V2, sl = [some (.val (.lst (ns.map D.int))), some (.ref 0), some (.val (.lst ws)), y] ∧ L' = L1)
    (fun _ _ _ _ _ => trivial) (fun i x sl L' hx ⟨y, z1, z2⟩ => by
      obtain ⟨s, rfl⟩ := w1 x (List.mem_of_getElem? hx)
      subst z1
      exact ⟨_, rfl, _, _, turn1 197 s _ _ _ L', some (.val (.str s)), rfl, z2⟩)
    ws.length 0 [some (.val (.lst (ns.map D.int))), some (.ref 0), some (.val (.lst ws)), none] L1 (by simp) (by simp) ⟨none, rfl, rfl⟩
  rw [List.drop_zero] at l1
  obtain ⟨sl1, L2, f1, y1, rfl, g1⟩ := l1
  rw [g1] at f1
  have c3 : exec (cl ld.pg false 199) (.for_ (.nm 3) .over [.v 2] p_law_1) [some (.val (.lst (ns.map D.int))), some (.ref 0), some (.val (.lst ws)), none] L1 = .nx [some (.val (.lst (ns.map D.int))), some (.ref 0), some (.val (.lst ws)), y1] L1 := by
    have a1 : evs (cl ld.pg false 199) [.v 2] [some (.val (.lst (ns.map D.int))), some (.ref 0), some (.val (.lst ws)), none] L1 = .ok [.val (.lst ws)] L1 := by
      simp only [evs, ev, List.getElem?_cons_succ, List.getElem?_cons_zero, R.bind_ok]
    rw [z_for, a1]
    exact f1
  have l2 := for_all (body := fun s' L' => execs (cl ld.pg false 199) p_law_2 s' L') (tg := .nm 3) (src := none) (ds := ws.reverse)
    (fun i sl L' => ∃ y : Option V2, sl = [some (.val (.lst (ns.map D.int))), some (.ref 0), some (.val (.lst ws)), y] ∧ L' = L1)
    (fun _ _ _ _ _ => trivial) (fun i x sl L' hx ⟨y, z1, z2⟩ => by
      obtain ⟨s, rfl⟩ := w1 x (List.mem_reverse.mp (List.mem_of_getElem? hx))
      subst z1
      exact ⟨_, rfl, _, _, turn2 197 s _ _ _ L', some (.val (.str s)), rfl, z2⟩)
    ws.reverse.length 0 [some (.val (.lst (ns.map D.int))), some (.ref 0), some (.val (.lst ws)), y1] L1 (by simp) (by simp) ⟨y1, rfl, rfl⟩
  rw [List.drop_zero] at l2
  obtain ⟨sl2, L3, f2, y2, rfl, g2⟩ := l2
  rw [g2] at f2
  have c4 : exec (cl ld.pg false 199) (.for_ (.nm 3) .over [.rev false (.v 2)] p_law_2) [some (.val (.lst (ns.map D.int))), some (.ref 0), some (.val (.lst ws)), y1] L1 = .nx [some (.val (.lst (ns.map D.int))), some (.ref 0), some (.val (.lst ws)), y2] L1 := by
    have a1 : evs (cl ld.pg false 199) [.rev false (.v 2)] [some (.val (.lst (ns.map D.int))), some (.ref 0), some (.val (.lst ws)), y1] L1 = .ok [.val (.lst ws.reverse)] L1 := by
      simp only [evs, ev, List.getElem?_cons_succ, List.getElem?_cons_zero, R.bind_ok, revV, V2.lst?]
      rw [z_newL _ _ (by simp; omega)]
      rfl
    rw [z_for, a1]
    exact f2
  have run : execs (cl ld.pg false 199) b_law [some (.val (.lst (ns.map D.int))), none, none, none] [] = .rt (.val (.bl true)) L1 := by
    unfold b_law
    rw [z_cons, c1, RS.thn_nx, z_cons, c2, RS.thn_nx, z_cons, c3, RS.thn_nx, z_cons, c4, RS.thn_nx, z_cons]
    simp only [exec, ev, R.st_ok, RS.thn_rt]
  show (execs (cl ld.pg false 199) b_law [some (.val (.lst (ns.map D.int))), none, none, none] []).fin 0 = _
  rw [run]
  simp [z_finV]
end Lw

set_option maxHeartbeats 0
namespace Lw
open PI PySem PySem.W PySem.Calls PyProof.Rows
abbrev R : OpenRow := OpenLaw.row PySem.Challenge.rw_keepsapart_k00_place_exactly
abbrev qv : Program := view R.prog [18]
def n0 : List PySem.Str := ["LETTERS", "MOST_LETTERS", "is_place", "_law_mix", "_law_store", "_law_take", "_law_pick", "_law_many", "_law_same", "_law_letters", "_law_signs", "_law_name", "_law_bad_place", "_law_raw_place", "_law_counted", "_law_words"]
def loose : List PySem.Str := n0
def top (i : Nat) : Stmt := PySem.Challenge.pw_keepsapart_k00_place_exactly.main.body.getD i (.Pass ⟨0, 0, 0, 0⟩)
def mkD (i : Nat) : He.DefD := match top i with
  | .FunctionDef n a b _ _ _ sc _ _ _ => ⟨(n, none), n, n, a, b, sc, [], []⟩
  | _ => ⟨("", none), "", "", default, [], default, [], []⟩
def fn : List He.DefD := [mkD 3, mkD 5, mkD 6, mkD 7, mkD 8, mkD 9, mkD 10, mkD 11, mkD 12, mkD 13, mkD 14, mkD 15, mkD 16, mkD 17, mkD 18]
theorem chk : ld.chk fn = true := by kernel_rfl
abbrev hk : PySem.W.Hook := hookL 4 ld.fa fn
def ob (s : PySem.W.SharedT) : He.AlD × Bool := obsL 4 ld.fa fn (HandSHeadRun.getT s)
theorem ob_eq (s : PySem.W.SharedT) : ob s = hk.obs s.abs := obsL_eq (HandSHeadRun.getT_eq s)
theorem hrun (w : World) : HandSHeadRun.RunEq R qv hk ob 3000 loose w := by
  intro os
  kernel_rfl

end Lw
open Lw PI PySem PySem.W PySem.Calls PyProof.Rows
theorem PySem.Challenge.cw_keepsapart_k00_place_exactly_holds : PySem.Challenge.rw_keepsapart_k00_place_exactly.Holds := by
  w_on; o_law
  refine HandSHeadRun.head_any (r := R) (q := qv) (H := hk) (ob := ob) (M := 3000) (loose := loose) (d := HandSHeadRun.topDef R.prog 18) (kwd := []) ob_eq (by kernel_rfl) (fun s => by kernel_rfl) hrun (by kernel_rfl) (by kernel_rfl) (by kernel_rfl) (by rfl) (by first | assumption | decide +kernel) (by decide +kernel) ⟨rfl, rfl, rfl, rfl, rfl, by decide +kernel⟩ ?hw ?hc
  case hw => w_witness2
  case hc =>
    refine L2.walk_ofE (l := PySem.Challenge.rw_keepsapart_k00_place_exactly) (n := 63) (k := 200) (x := "script") (CX := L2.CX0) rfl (by decide) (by kernel_rfl) ⟨rfl, by decide, by decide⟩ ?F (fun _ _ _ _ z => z)
    intro w mg fa h Y G hmg0
    obtain ⟨K, KX, c, nl⟩ := Y
    have hmg : mg (ld.nm 14) = some (.ref fa) := by
      have e : (HandSHeadRun.topDef R.prog 18).name = ld.nm 14 := by kernel_rfl
      rw [← e]
      exact hmg0
    obtain ⟨fd, hb, hF⟩ := law_fn (P := PySem.Challenge.rw_keepsapart_k00_place_exactly.prog) (w := w) KX G c chk (k := 199) (e := ⟨14, f_law, N_law⟩) (List.mem_of_getElem? (i := 14) rfl) hmg (x := 20) rfl rfl truth
    refine ⟨K, fd, spLaw K, KX, hb, fun H a ns hl _ hS => ⟨a, ns, rfl, hS.resolve_right fun ⟨o, its, n, hk, hc, _⟩ => noList_ok nl hk hc, hl, fun _ => rfl⟩, fun base _ _ => hF base⟩
